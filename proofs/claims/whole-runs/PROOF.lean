import PyProof.Rows.All
import Wide.All
import OpenK.AllK
import Wide.FinOn
import HandS.ForMost
import HandS.Exc
import HandS.TryOnly
import HandS.ExcOwn
import HandS.WordsExc
import HandS.Evl
import HandS.Steps
import HandS.Codes
import HandS.Conv
import HandS.NoneIn
import HandS.Deep
import HandS.DictTup
import HandS.IsInst
import HandS.More
import HandS.Flow
import HandS.Style
import HandS.TupAny
import HandS.Wide
import HandS.WideBits
import HandS.Zip
import KE.GoesEnum
import HandS.TupMul
import PySem.Challenge.RW_likebeats_k19_whole_runs_hold_together
set_option Elab.async false
set_option linter.all false
set_option maxRecDepth 100000
set_option maxHeartbeats 4000000
/-! Part A: the machine in plain Lean, and what holds of its runs. -/
namespace LB

inductive Op2 where
  | add | sub | less | same | mix | times | parts
  deriving DecidableEq
/-- deeds -/
inductive Deed where
  | set (b n : Nat) | copy (b c : Nat) | op2 (o : Op2) (b c d : Nat) | pick (b c d e : Nat)
/-- steps that hold no steps -/
inductive Lf where
  | deed (x : Deed) | take (b t c : Nat) | put (t c d : Nat) | touch (t c : Nat) | tell (c : Nat) | idle (m : Nat)
/-- a row of steps -/
inductive P where
  | nil | lf (x : Lf) (r : P) | ite (c : Nat) (a b r : P) | rnd (n : Nat) (a r : P) | trn (c : Nat) (a r : P)
/-- one step -/
inductive Hd where
  | lf (x : Lf) | ite (c : Nat) (a b : P) | rnd (n : Nat) (a : P) | trn (c : Nat) (a : P)
namespace P
def heads : P → List Hd
  | nil => [] | lf x r => .lf x :: r.heads | ite c a b r => .ite c a b :: r.heads | rnd n a r => .rnd n a :: r.heads | trn c a r => .trn c a :: r.heads
def app : P → P → P
  | nil, q => q | lf x r, q => .lf x (r.app q) | ite c a b r, q => .ite c a b (r.app q) | rnd n a r, q => .rnd n a (r.app q) | trn c a r, q => .trn c a (r.app q)
/-- how many at the top -/
def len : P → Nat
  | nil => 0 | lf _ r => r.len + 1 | ite _ _ _ r => r.len + 1 | rnd _ _ r => r.len + 1 | trn _ _ r => r.len + 1
/-- how many in all -/
def size : P → Nat
  | nil => 0 | lf _ r => 1 + r.size | ite _ a b r => 1 + a.size + b.size + r.size | rnd _ a r => 1 + a.size + r.size | trn _ a r => 1 + a.size + r.size
end P
theorem heads_app : ∀ p q : P, (p.app q).heads = p.heads ++ q.heads
  | .nil, _ => rfl
  | .lf _ r, q => congrArg (_ :: ·) (heads_app r q)
  | .ite _ _ _ r, q => congrArg (_ :: ·) (heads_app r q)
  | .rnd _ _ r, q => congrArg (_ :: ·) (heads_app r q)
  | .trn _ _ r, q => congrArg (_ :: ·) (heads_app r q)
theorem len_heads : ∀ p : P, p.heads.length = p.len
  | .nil => rfl
  | .lf _ r => congrArg (· + 1) (len_heads r)
  | .ite _ _ _ r => congrArg (· + 1) (len_heads r)
  | .rnd _ _ r => congrArg (· + 1) (len_heads r)
  | .trn _ _ r => congrArg (· + 1) (len_heads r)

/-! ### the machine -/
structure Mk where
  near : Nat
  far : Nat
  wrong : Nat
  width : Nat
  long : Nat
structure Co where
  boxes : List Int
  tabs : List (List Int)
  near : List (Int × Int)
  went : List Nat → Bool
/-- an event: its path, step, beats; the rooms begun by it, its own; what it tells -/
structure Ev where
  path : List Nat
  hd : Hd
  dur : Int
  begun : List (Int × Int)
  own : Option (Int × Int)
  told : Option Int

def Deed.box : Deed → Nat
  | .set b _ => b | .copy b _ => b | .op2 _ b _ _ => b | .pick b _ _ _ => b
def opW (xor : Int → Int → Int) : Op2 → Int → Int → Int
  | .add, i, j => (i + j) % 16
  | .sub, i, j => (i - j) % 16
  | .less, i, j => if i < j then 1 else 0
  | .same, i, j => if i = j then 1 else 0
  | .mix, i, j => xor i j
  | .times, i, j => i * j % 16
  | .parts, i, j => if j ≠ 0 then i / j else 15
section
variable (xor : Int → Int → Int) (bits : Int → Int)
def deedW (d : Deed) (bx : List Int) : Int :=
  match d with
  | .set _ n => (n : Int)
  | .copy _ c => bx.getD c 0
  | .op2 o _ c d => opW xor o (bx.getD c 0) (bx.getD d 0)
  | .pick _ c d e => if bx.getD c 0 ≠ 0 then bx.getD d 0 else bx.getD e 0
/-- beats besides -/
def moreW (m : Mk) (d : Deed) (bx : List Int) : Int :=
  match d with
  | .op2 .times _ _ d => if m.long = 0 then 0 else bits (bx.getD d 0)
  | .op2 .parts _ c d => if m.long = 0 then 0 else opW xor .parts (bx.getD c 0) (bx.getD d 0)
  | _ => 0
def nearer (m : Mk) (nr : List (Int × Int)) (rm : Int × Int) : List (Int × Int) := (rm :: nr.filter fun one => decide (one ≠ rm)).take m.near
def roomOf (t : Nat) (c : Int) : Int × Int := ((t : Int), c / 4)
def cellOf (tabs : List (List Int)) (t : Nat) (c : Int) : Int := (tabs.getD t []).getD c.toNat 0
/-- the steps begun: the rooms near behind them, those touched -/
def begins (m : Mk) (tabs : List (List Int)) : List Hd → List Int → List (Int × Int) → List (Int × Int) × List (Int × Int)
  | [], _, nr => (nr, [])
  | .lf (.deed d) :: r, bx, nr => begins m tabs r (bx.set d.box (deedW xor d bx)) nr
  | .lf (.take b t c) :: r, bx, nr =>
    let q := begins m tabs r (bx.set b (cellOf tabs t (bx.getD c 0))) (nearer m nr (roomOf t (bx.getD c 0)))
    (q.1, roomOf t (bx.getD c 0) :: q.2)
  | .lf (.put t c _) :: r, bx, nr =>
    let q := begins m tabs r bx (nearer m nr (roomOf t (bx.getD c 0)))
    (q.1, roomOf t (bx.getD c 0) :: q.2)
  | .lf (.touch t c) :: r, bx, nr =>
    let q := begins m tabs r bx (nearer m nr (roomOf t (bx.getD c 0)))
    (q.1, roomOf t (bx.getD c 0) :: q.2)
  | .lf (.tell _) :: _, _, nr => (nr, [])
  | .lf (.idle _) :: _, _, nr => (nr, [])
  | .ite _ _ _ :: _, _, nr => (nr, [])
  | .rnd _ _ :: _, _, nr => (nr, [])
  | .trn _ _ :: _, _, nr => (nr, [])
def goesPath (w : List Nat → Bool) (p : List Nat) (b : Bool) : List Nat → Bool := fun q => if q = p then b else w q
def farOf (m : Mk) (nr : List (Int × Int)) (rm : Int × Int) : Int := if rm ∈ nr then 1 else 1 + (m.far : Int)
/-- a step without steps -/
def leaf (m : Mk) (x : Lf) (path : List Nat) (c : Co) : Co × Ev :=
  match x with
  | .deed d => ({ c with boxes := c.boxes.set d.box (deedW xor d c.boxes) }, ⟨path, .lf x, 1 + moreW xor bits m d c.boxes, [], none, none⟩)
  | .take b t e => ({ c with boxes := c.boxes.set b (cellOf c.tabs t (c.boxes.getD e 0)), near := nearer m c.near (roomOf t (c.boxes.getD e 0)) },
      ⟨path, .lf x, farOf m c.near (roomOf t (c.boxes.getD e 0)), [], some (roomOf t (c.boxes.getD e 0)), none⟩)
  | .put t e d => ({ c with tabs := c.tabs.set t ((c.tabs.getD t []).set (c.boxes.getD e 0).toNat (c.boxes.getD d 0)), near := nearer m c.near (roomOf t (c.boxes.getD e 0)) },
      ⟨path, .lf x, farOf m c.near (roomOf t (c.boxes.getD e 0)), [], some (roomOf t (c.boxes.getD e 0)), none⟩)
  | .touch t e => ({ c with near := nearer m c.near (roomOf t (c.boxes.getD e 0)) },
      ⟨path, .lf x, farOf m c.near (roomOf t (c.boxes.getD e 0)), [], some (roomOf t (c.boxes.getD e 0)), none⟩)
  | .tell e => (c, ⟨path, .lf x, 1, [], none, some (c.boxes.getD e 0)⟩)
  | .idle n => (c, ⟨path, .lf x, (n : Int), [], none, none⟩)
/-- an if, ahead of its arm -/
def iffy (m : Mk) (e : Nat) (a b : P) (path : List Nat) (c : Co) : Co × Ev :=
  let f := decide (c.boxes.getD e 0 ≠ 0)
  let bg := if c.went path ≠ f then begins xor m c.tabs ((if f = true then b else a).heads.take m.width) c.boxes c.near else (c.near, [])
  ({ c with near := bg.1, went := goesPath c.went path f }, ⟨path, .ite e a b, if c.went path ≠ f then 1 + (m.wrong : Int) else 1, bg.2, none, none⟩)
/-- n times -/
def rep (f : Co → Co × List Ev) : Nat → Co → Co × List Ev
  | 0, c => (c, [])
  | n + 1, c => ((rep f n (f c).1).1, (f c).2 ++ (rep f n (f c).1).2)
def pre (e : Ev) (q : Co × List Ev) : Co × List Ev := (q.1, e :: q.2)
def thenE (q : Co × List Ev) (f : Co → Co × List Ev) : Co × List Ev := ((f q.1).1, q.2 ++ (f q.1).2)
def tick (h : Hd) (path : List Nat) : Ev := ⟨path, h, 1, [], none, none⟩
def sem (m : Mk) : P → List Nat → Nat → Co → Co × List Ev
  | .nil, _, _, c => (c, [])
  | .lf x r, A, k, c => pre (leaf xor bits m x (A ++ [k]) c).2 (sem m r A (k + 1) (leaf xor bits m x (A ++ [k]) c).1)
  | .ite e a b r, A, k, c =>
    thenE (pre (iffy xor m e a b (A ++ [k]) c).2
      (if c.boxes.getD e 0 ≠ 0 then sem m a (A ++ [k] ++ [0]) 0 (iffy xor m e a b (A ++ [k]) c).1 else sem m b (A ++ [k] ++ [1]) 0 (iffy xor m e a b (A ++ [k]) c).1)) fun c1 => sem m r A (k + 1) c1
  | .rnd n a r, A, k, c => thenE (rep (fun c1 => pre (tick (.rnd n a) (A ++ [k])) (sem m a (A ++ [k] ++ [0]) 0 c1)) n c) fun c1 => sem m r A (k + 1) c1
  | .trn e a r, A, k, c =>
    thenE (thenE (rep (fun c1 => pre (tick (.trn e a) (A ++ [k])) (sem m a (A ++ [k] ++ [0]) 0 c1)) (c.boxes.getD e 0).toNat c) fun c1 => (c1, [tick (.trn e a) (A ++ [k])])) fun c1 => sem m r A (k + 1) c1
end
end LB
namespace LB

/-! ### what is seen of events -/
def dursOf : List Ev → Int
  | [] => 0
  | e :: r => e.dur + dursOf r
def tchs (e : Ev) : List (Int × Int) := e.begun ++ e.own.toList
def touchesOf : Int → List Ev → List (Int × Int × Int)
  | _, [] => []
  | b, e :: r => (tchs e).map (fun t => (b, t.1, t.2)) ++ touchesOf (b + e.dur) r
def metOf : Int → List Ev → List (List Nat × Int)
  | _, [] => []
  | b, e :: r => (e.path, b) :: metOf (b + e.dur) r
def toldOf : List Ev → List Int
  | [] => []
  | e :: r => e.told.toList ++ toldOf r
theorem dursOf_app : ∀ l r : List Ev, dursOf (l ++ r) = dursOf l + dursOf r
  | [], r => by simp [dursOf]
  | e :: l, r => by show e.dur + dursOf (l ++ r) = e.dur + dursOf l + dursOf r; rw [dursOf_app l r]; omega
theorem touchesOf_app : ∀ (b : Int) (l r : List Ev), touchesOf b (l ++ r) = touchesOf b l ++ touchesOf (b + dursOf l) r
  | b, [], r => by simp [touchesOf, dursOf]
  | b, e :: l, r => by
    show _ ++ touchesOf (b + e.dur) (l ++ r) = (_ ++ touchesOf (b + e.dur) l) ++ touchesOf (b + (e.dur + dursOf l)) r
    rw [touchesOf_app, List.append_assoc, Int.add_assoc]
theorem metOf_app : ∀ (b : Int) (l r : List Ev), metOf b (l ++ r) = metOf b l ++ metOf (b + dursOf l) r
  | b, [], r => by simp [metOf, dursOf]
  | b, e :: l, r => by
    show _ :: metOf (b + e.dur) (l ++ r) = (_ :: metOf (b + e.dur) l) ++ metOf (b + (e.dur + dursOf l)) r
    rw [metOf_app, Int.add_assoc]
    rfl
theorem toldOf_app : ∀ l r : List Ev, toldOf (l ++ r) = toldOf l ++ toldOf r
  | [], _ => rfl
  | e :: l, r => by show _ ++ toldOf (l ++ r) = (_ ++ toldOf l) ++ toldOf r; rw [toldOf_app, List.append_assoc]
theorem metOf_len : ∀ (b : Int) (l : List Ev), (metOf b l).length = l.length
  | _, [] => rfl
  | b, e :: l => congrArg (· + 1) (metOf_len (b + e.dur) l)
/-- shift -/
theorem touchesOf_shift (d : Int) : ∀ (b : Int) (l : List Ev), touchesOf (d + b) l = (touchesOf b l).map fun t => (d + t.1, t.2.1, t.2.2)
  | _, [] => rfl
  | b, e :: l => by
    have h := touchesOf_shift d (b + e.dur) l
    simp only [touchesOf, List.map_append, List.map_map]
    rw [← h, Int.add_assoc]
    rfl

/-! ### the whole state of a run -/
structure S where
  boxes : List Int
  tabs : List (List Int)
  said : List Int
  beats : Int
  touches : List (Int × Int × Int)
  near : List (Int × Int)
  went : List Nat → Bool
  met : List (List Nat × Int)
def S.co (s : S) : Co := ⟨s.boxes, s.tabs, s.near, s.went⟩
def S.add (s : S) (q : Co × List Ev) : S :=
  { boxes := q.1.boxes, tabs := q.1.tabs, near := q.1.near, went := q.1.went, said := s.said ++ toldOf q.2, beats := s.beats + dursOf q.2, touches := s.touches ++ touchesOf s.beats q.2, met := s.met ++ metOf s.beats q.2 }
theorem S.add_co (s : S) (q : Co × List Ev) : (s.add q).co = q.1 := rfl
theorem S.add_add (s : S) (q q' : Co × List Ev) : (s.add q).add q' = s.add (q'.1, q.2 ++ q'.2) := by
  simp only [S.add, toldOf_app, dursOf_app, touchesOf_app, metOf_app, List.append_assoc, Int.add_assoc]
theorem S.add_nil (s : S) : s.add (s.co, []) = s := by
  simp only [S.add, S.co, toldOf, dursOf, touchesOf, metOf, List.append_nil, Int.add_zero]
theorem S.add_met (s : S) (q : Co × List Ev) : (s.add q).met.length = s.met.length + q.2.length := by
  show (s.met ++ metOf s.beats q.2).length = _
  rw [List.length_append, metOf_len]
theorem add_thenE (s : S) (q : Co × List Ev) (f : Co → Co × List Ev) : s.add (thenE q f) = (s.add q).add (f (s.add q).co) := by
  rw [S.add_add]
  rfl
theorem add_pre (s : S) (e : Ev) (c : Co) (q : Co × List Ev) : s.add (pre e q) = (s.add (c, [e])).add q := by
  rw [S.add_add]
  rfl

/-! ### induction over a run -/
section
variable (xor : Int → Int → Int) (bits : Int → Int)
theorem rep_all {Pr : Co → Prop} {Pe : Ev → Prop} {f : Co → Co × List Ev} (hf : ∀ c, Pr c → Pr (f c).1 ∧ ∀ e ∈ (f c).2, Pe e) : ∀ (n : Nat) (c : Co), Pr c → Pr (rep f n c).1 ∧ ∀ e ∈ (rep f n c).2, Pe e
  | 0, c, h => ⟨h, fun _ m => nomatch m⟩
  | n + 1, c, h => by
    obtain ⟨h1, h2⟩ := hf c h
    obtain ⟨h3, h4⟩ := rep_all hf n _ h1
    exact ⟨h3, fun e m => (List.mem_append.mp m).elim (h2 e) (h4 e)⟩

/-! ### words stay words -/
def Wd (i : Int) : Prop := 0 ≤ i ∧ i < 16
structure Good (bx : List Int) (tabs : List (List Int)) : Prop where
  n : bx.length = 32
  w : ∀ i ∈ bx, Wd i
  tn : tabs.length = 4
  tw : ∀ t ∈ tabs, t.length = 16 ∧ ∀ i ∈ t, Wd i
def Co.Good (c : Co) : Prop := LB.Good c.boxes c.tabs
def Deed.ok : Deed → Prop
  | .set b n => b < 32 ∧ n < 16
  | .copy b c => b < 32 ∧ c < 32
  | .op2 _ b c d => b < 32 ∧ c < 32 ∧ d < 32
  | .pick b c d e => b < 32 ∧ c < 32 ∧ d < 32 ∧ e < 32
def Lf.ok : Lf → Prop
  | .deed d => d.ok
  | .take b t c => b < 32 ∧ t < 4 ∧ c < 32
  | .put t c d => t < 4 ∧ c < 32 ∧ d < 32
  | .touch t c => t < 4 ∧ c < 32
  | .tell c => c < 32
  | .idle m => 1 ≤ m ∧ m ≤ 60
/-- good steps, so deep at the most -/
def P.ok : Nat → P → Prop
  | _, .nil => True
  | d, .lf x r => 1 ≤ d ∧ x.ok ∧ r.ok d
  | d, .ite c a b r => 1 ≤ d ∧ c < 32 ∧ a.ok (d - 1) ∧ b.ok (d - 1) ∧ r.ok d
  | d, .rnd n a r => 1 ≤ d ∧ 1 ≤ n ∧ n ≤ 15 ∧ a.ok (d - 1) ∧ r.ok d
  | d, .trn c a r => 1 ≤ d ∧ c < 32 ∧ a.ok (d - 1) ∧ r.ok d
def Hd.ok (d : Nat) : Hd → Prop
  | .lf x => x.ok
  | .ite c a b => c < 32 ∧ a.ok (d - 1) ∧ b.ok (d - 1)
  | .rnd n a => 1 ≤ n ∧ n ≤ 15 ∧ a.ok (d - 1)
  | .trn c a => c < 32 ∧ a.ok (d - 1)
theorem P.ok_mono : ∀ (p : P) {d e : Nat}, d ≤ e → p.ok d → p.ok e
  | .nil, _, _, _, _ => trivial
  | .lf x r, d, e, h, ⟨h1, h2, h3⟩ => ⟨Nat.le_trans h1 h, h2, r.ok_mono h h3⟩
  | .ite c a b r, d, e, h, ⟨h1, h2, h3, h4, h5⟩ => ⟨Nat.le_trans h1 h, h2, a.ok_mono (by omega) h3, b.ok_mono (by omega) h4, r.ok_mono h h5⟩
  | .rnd n a r, d, e, h, ⟨h1, h2, h3, h4, h5⟩ => ⟨Nat.le_trans h1 h, h2, h3, a.ok_mono (by omega) h4, r.ok_mono h h5⟩
  | .trn c a r, d, e, h, ⟨h1, h2, h3, h4⟩ => ⟨Nat.le_trans h1 h, h2, a.ok_mono (by omega) h3, r.ok_mono h h4⟩
theorem P.ok_app : ∀ (p q : P) {d : Nat}, p.ok d → q.ok d → (p.app q).ok d
  | .nil, _, _, _, h => h
  | .lf x r, q, d, ⟨h1, h2, h3⟩, h => ⟨h1, h2, r.ok_app q h3 h⟩
  | .ite c a b r, q, d, ⟨h1, h2, h3, h4, h5⟩, h => ⟨h1, h2, h3, h4, r.ok_app q h5 h⟩
  | .rnd n a r, q, d, ⟨h1, h2, h3, h4, h5⟩, h => ⟨h1, h2, h3, h4, r.ok_app q h5 h⟩
  | .trn c a r, q, d, ⟨h1, h2, h3, h4⟩, h => ⟨h1, h2, h3, r.ok_app q h4 h⟩
theorem P.ok_heads : ∀ (p : P) {d : Nat}, p.ok d → ∀ h ∈ p.heads, h.ok d ∧ 1 ≤ d
  | .nil, _, _, _, m => nomatch m
  | .lf x r, d, ⟨h1, h2, h3⟩, h, m => by
    rcases List.mem_cons.mp m with rfl | m
    · exact ⟨h2, h1⟩
    · exact r.ok_heads h3 h m
  | .ite c a b r, d, ⟨h1, h2, h3, h4, h5⟩, h, m => by
    rcases List.mem_cons.mp m with rfl | m
    · exact ⟨⟨h2, h3, h4⟩, h1⟩
    · exact r.ok_heads h5 h m
  | .rnd n a r, d, ⟨h1, h2, h3, h4, h5⟩, h, m => by
    rcases List.mem_cons.mp m with rfl | m
    · exact ⟨⟨h2, h3, h4⟩, h1⟩
    · exact r.ok_heads h5 h m
  | .trn c a r, d, ⟨h1, h2, h3, h4⟩, h, m => by
    rcases List.mem_cons.mp m with rfl | m
    · exact ⟨⟨h2, h3⟩, h1⟩
    · exact r.ok_heads h4 h m

theorem wd_getD {bx : List Int} (h : ∀ i ∈ bx, Wd i) (c : Nat) : Wd (bx.getD c 0) := by
  rw [List.getD_eq_getElem?_getD]
  cases e : bx[c]? with
  | none => exact ⟨by decide, by decide⟩
  | some v => exact h v (List.mem_of_getElem? e)
theorem wd_set {bx : List Int} (h : ∀ i ∈ bx, Wd i) (c : Nat) {v : Int} (hv : Wd v) : ∀ i ∈ bx.set c v, Wd i := fun i m => by
  rcases List.mem_or_eq_of_mem_set m with m | rfl
  · exact h i m
  · exact hv
/-- what is asked of ^ and bit_length -/
structure Ops : Prop where
  xw : ∀ i j, Wd i → Wd j → Wd (xor i j)
  b0 : ∀ i, Wd i → 0 ≤ bits i ∧ bits i ≤ 4
variable {xor bits}
theorem opW_wd (O : Ops xor bits) (o : Op2) {i j : Int} (hi : Wd i) (hj : Wd j) : Wd (opW xor o i j) := by
  obtain ⟨hi0, hi1⟩ := hi
  obtain ⟨hj0, hj1⟩ := hj
  cases o with
  | add => exact ⟨Int.emod_nonneg _ (by decide), Int.emod_lt_of_pos _ (by decide)⟩
  | sub => exact ⟨Int.emod_nonneg _ (by decide), Int.emod_lt_of_pos _ (by decide)⟩
  | less => show Wd (if i < j then 1 else 0); split <;> exact ⟨by decide, by decide⟩
  | same => show Wd (if i = j then 1 else 0); split <;> exact ⟨by decide, by decide⟩
  | mix => exact O.xw i j ⟨hi0, hi1⟩ ⟨hj0, hj1⟩
  | times => exact ⟨Int.emod_nonneg _ (by decide), Int.emod_lt_of_pos _ (by decide)⟩
  | parts =>
    show Wd (if j ≠ 0 then i / j else 15)
    split
    · exact ⟨Int.ediv_nonneg hi0 hj0, Int.lt_of_le_of_lt (Int.ediv_le_self _ hi0) hi1⟩
    · exact ⟨by decide, by decide⟩
theorem deedW_wd (O : Ops xor bits) {d : Deed} (hd : d.ok) {bx : List Int} (h : ∀ i ∈ bx, Wd i) : Wd (deedW xor d bx) := by
  cases d with
  | set b n => obtain ⟨_, hn⟩ := hd; exact ⟨by show (0 : Int) ≤ (n : Int); omega, by show (n : Int) < 16; omega⟩
  | copy b c => exact wd_getD h c
  | op2 o b c e => exact opW_wd O o (wd_getD h c) (wd_getD h e)
  | pick b c e f => show Wd (if bx.getD c 0 ≠ 0 then bx.getD e 0 else bx.getD f 0); split <;> exact wd_getD h _
theorem cellOf_wd {tabs : List (List Int)} (h : ∀ t ∈ tabs, t.length = 16 ∧ ∀ i ∈ t, Wd i) (t : Nat) (c : Int) : Wd (cellOf tabs t c) := by
  unfold cellOf
  rw [List.getD_eq_getElem?_getD (l := tabs)]
  cases e : tabs[t]? with
  | none => exact wd_getD (bx := []) (fun _ q => nomatch q) _
  | some v => exact wd_getD (h v (List.mem_of_getElem? e)).2 _
theorem leaf_good (O : Ops xor bits) (m : Mk) {x : Lf} (hx : x.ok) (path : List Nat) {c : Co} (h : c.Good) : (leaf xor bits m x path c).1.Good := by
  obtain ⟨h1, h2, h3, h4⟩ := h
  cases x with
  | deed d => exact ⟨by show (c.boxes.set _ _).length = 32; rw [List.length_set]; exact h1, wd_set h2 _ (deedW_wd O hx h2), h3, h4⟩
  | take b t e => exact ⟨by show (c.boxes.set _ _).length = 32; rw [List.length_set]; exact h1, wd_set h2 _ (cellOf_wd h4 _ _), h3, h4⟩
  | put t e d =>
    refine ⟨h1, h2, by show (c.tabs.set _ _).length = 4; rw [List.length_set]; exact h3, fun u m => ?_⟩
    rcases List.mem_or_eq_of_mem_set m with m | rfl
    · exact h4 u m
    · have hl : t < c.tabs.length := by rw [h3]; exact hx.1
      have hm : c.tabs.getD t [] ∈ c.tabs := by
        rw [List.getD_eq_getElem?_getD, List.getElem?_eq_getElem hl]
        exact List.getElem_mem hl
      obtain ⟨q1, q2⟩ := h4 _ hm
      exact ⟨by rw [List.length_set]; exact q1, wd_set q2 _ (wd_getD h2 _)⟩
  | touch t e => exact ⟨h1, h2, h3, h4⟩
  | tell e => exact ⟨h1, h2, h3, h4⟩
  | idle n => exact ⟨h1, h2, h3, h4⟩
theorem sem_good (O : Ops xor bits) (m : Mk) : ∀ (p : P) {d : Nat} (_ : p.ok d) (A : List Nat) (k : Nat) (c : Co), c.Good → (sem xor bits m p A k c).1.Good
  | .nil, _, _, _, _, _, h => h
  | .lf x r, d, ⟨_, h2, h3⟩, A, k, c, h => sem_good O m r h3 A (k + 1) _ (leaf_good O m h2 _ h)
  | .ite e a b r, d, ⟨_, h2, h3, h4, h5⟩, A, k, c, h => by
    refine sem_good O m r h5 A (k + 1) _ ?_
    show (pre _ (if _ then _ else _)).1.Good
    split
    · exact sem_good O m a h3 _ _ _ h
    · exact sem_good O m b h4 _ _ _ h
  | .rnd n a r, d, ⟨_, _, _, h3, h5⟩, A, k, c, h => by
    refine sem_good O m r h5 A (k + 1) _ ?_
    refine (rep_all (Pr := Co.Good) (Pe := fun _ => True) ?_ n c h).1
    exact fun c1 g => ⟨sem_good O m a h3 _ _ c1 g, fun _ _ => trivial⟩
  | .trn e a r, d, ⟨_, _, h3, h5⟩, A, k, c, h => by
    refine sem_good O m r h5 A (k + 1) _ ?_
    refine (rep_all (Pr := Co.Good) (Pe := fun _ => True) ?_ _ c h).1
    exact fun c1 g => ⟨sem_good O m a h3 _ _ c1 g, fun _ _ => trivial⟩
end
end LB
namespace LB

/-! ### where an event stands -/
def armOf : Hd → Nat → Option P
  | .ite _ a _, 0 => some a
  | .ite _ _ b, 1 => some b
  | .rnd _ a, 0 => some a
  | .trn _ a, 0 => some a
  | _, _ => none
def atH : Hd → List Nat → Option Hd
  | h, [] => some h
  | _, [_] => none
  | h, a :: i :: r => match armOf h a with
    | none => none
    | some q => match q.heads[i]? with
      | none => none
      | some h' => atH h' r
def StandsIn (p : P) (A : List Nat) (k : Nat) (e : Ev) : Prop := ∃ (i : Nat) (r : List Nat) (h : Hd), e.path = A ++ (k + i) :: r ∧ p.heads[i]? = some h ∧ atH h r = some e.hd
def Hd.isTab : Hd → Option Nat
  | .lf (.take _ t _) => some t
  | .lf (.put t _ _) => some t
  | .lf (.touch t _) => some t
  | _ => none
def Hd.isIf : Hd → Bool
  | .ite _ _ _ => true
  | _ => false
def fits (m : Mk) (h : Hd) (d : Int) : Prop :=
  match h with
  | .lf (.idle n) => d = n
  | .lf (.take _ _ _) => d = 1 ∨ d = 1 + m.far
  | .lf (.put _ _ _) => d = 1 ∨ d = 1 + m.far
  | .lf (.touch _ _) => d = 1 ∨ d = 1 + m.far
  | .ite _ _ _ => d = 1 ∨ d = 1 + m.wrong
  | .lf (.deed (.op2 .times _ _ _)) => 1 ≤ d ∧ d ≤ 1 + 15 * m.long
  | .lf (.deed (.op2 .parts _ _ _)) => 1 ≤ d ∧ d ≤ 1 + 15 * m.long
  | _ => d = 1
def roomOk (t : Int × Int) : Prop := 0 ≤ t.2 ∧ t.2 ≤ 3
structure EvOk (m : Mk) (e : Ev) : Prop where
  fit : fits m e.hd e.dur
  one : 1 ≤ e.dur
  own : e.own.map Prod.fst = e.hd.isTab.map fun t => (t : Int)
  bg : e.begun ≠ [] → e.hd.isIf = true ∧ m.width ≠ 0
  few : e.begun.length ≤ m.width
  rooms : ∀ t ∈ tchs e, roomOk t
section
variable {xor : Int → Int → Int} {bits : Int → Int}
theorem roomOf_ok {t : Nat} {c : Int} (h : Wd c) : roomOk (roomOf t c) := by
  obtain ⟨h0, h1⟩ := h
  exact ⟨by show (0 : Int) ≤ c / 4; omega, by show c / 4 ≤ (3 : Int); omega⟩
theorem begins_ok (O : Ops xor bits) (m : Mk) (tabs : List (List Int)) (ht : ∀ t ∈ tabs, t.length = 16 ∧ ∀ i ∈ t, Wd i) {d : Nat} : ∀ (l : List Hd) (bx : List Int) (nr : List (Int × Int)), (∀ h ∈ l, h.ok d) → (∀ i ∈ bx, Wd i) →
    (∀ t ∈ (begins xor m tabs l bx nr).2, roomOk t) ∧ (begins xor m tabs l bx nr).2.length ≤ l.length
  | [], _, _, _, _ => ⟨fun _ m => (nomatch m), Nat.le_refl _⟩
  | .lf (.deed e) :: r, bx, nr, hl, hb => by
    obtain ⟨a, b⟩ := begins_ok O m tabs ht r (bx.set e.box (deedW xor e bx)) nr (fun h q => hl h (List.mem_cons_of_mem _ q)) (wd_set hb _ (deedW_wd O (hl _ List.mem_cons_self) hb))
    exact ⟨a, Nat.le_succ_of_le b⟩
  | .lf (.take b t c) :: r, bx, nr, hl, hb => by
    obtain ⟨a, b'⟩ := begins_ok O m tabs ht r (bx.set b (cellOf tabs t (bx.getD c 0))) (nearer m nr (roomOf t (bx.getD c 0))) (fun h q => hl h (List.mem_cons_of_mem _ q)) (wd_set hb _ (cellOf_wd ht _ _))
    refine ⟨fun t' q => ?_, Nat.succ_le_succ b'⟩
    rcases List.mem_cons.mp q with rfl | q
    · exact roomOf_ok (wd_getD hb _)
    · exact a t' q
  | .lf (.put t c _) :: r, bx, nr, hl, hb => by
    obtain ⟨a, b'⟩ := begins_ok O m tabs ht r bx (nearer m nr (roomOf t (bx.getD c 0))) (fun h q => hl h (List.mem_cons_of_mem _ q)) hb
    refine ⟨fun t' q => ?_, Nat.succ_le_succ b'⟩
    rcases List.mem_cons.mp q with rfl | q
    · exact roomOf_ok (wd_getD hb _)
    · exact a t' q
  | .lf (.touch t c) :: r, bx, nr, hl, hb => by
    obtain ⟨a, b'⟩ := begins_ok O m tabs ht r bx (nearer m nr (roomOf t (bx.getD c 0))) (fun h q => hl h (List.mem_cons_of_mem _ q)) hb
    refine ⟨fun t' q => ?_, Nat.succ_le_succ b'⟩
    rcases List.mem_cons.mp q with rfl | q
    · exact roomOf_ok (wd_getD hb _)
    · exact a t' q
  | .lf (.tell _) :: _, _, _, _, _ => ⟨fun _ m => (nomatch m), Nat.zero_le _⟩
  | .lf (.idle _) :: _, _, _, _, _ => ⟨fun _ m => (nomatch m), Nat.zero_le _⟩
  | .ite _ _ _ :: _, _, _, _, _ => ⟨fun _ m => (nomatch m), Nat.zero_le _⟩
  | .rnd _ _ :: _, _, _, _, _ => ⟨fun _ m => (nomatch m), Nat.zero_le _⟩
  | .trn _ _ :: _, _, _, _, _ => ⟨fun _ m => (nomatch m), Nat.zero_le _⟩
theorem farOf_or (m : Mk) (nr : List (Int × Int)) (rm : Int × Int) : farOf m nr rm = 1 ∨ farOf m nr rm = 1 + m.far := by
  unfold farOf
  split
  · exact .inl rfl
  · exact .inr rfl
theorem farOf_one (m : Mk) (nr : List (Int × Int)) (rm : Int × Int) : 1 ≤ farOf m nr rm := by
  rcases farOf_or m nr rm with h | h <;> rw [h] <;> omega
theorem iffy_ok (O : Ops xor bits) (m : Mk) {e : Nat} {a b : P} {d : Nat} (ha : a.ok d) (hb : b.ok d) (path : List Nat) {c : Co} (g : c.Good) : EvOk m (iffy xor m e a b path c).2 := by
  have hh : ∀ h ∈ (if decide (c.boxes.getD e 0 ≠ 0) = true then b else a).heads.take m.width, h.ok d := fun h q => by
    have q' := List.mem_of_mem_take q
    split at q'
    · exact (b.ok_heads hb h q').1
    · exact (a.ok_heads ha h q').1
  obtain ⟨b1, b2⟩ := begins_ok O m c.tabs g.tw ((if decide (c.boxes.getD e 0 ≠ 0) = true then b else a).heads.take m.width) c.boxes c.near hh g.w
  have b3 : (begins xor m c.tabs ((if decide (c.boxes.getD e 0 ≠ 0) = true then b else a).heads.take m.width) c.boxes c.near).2.length ≤ m.width := Nat.le_trans b2 (by rw [List.length_take]; exact Nat.min_le_left _ _)
  by_cases hw : c.went path ≠ decide (c.boxes.getD e 0 ≠ 0)
  · have e1 : (iffy xor m e a b path c).2 = ⟨path, .ite e a b, 1 + (m.wrong : Int), (begins xor m c.tabs ((if decide (c.boxes.getD e 0 ≠ 0) = true then b else a).heads.take m.width) c.boxes c.near).2, none, none⟩ := by
      unfold iffy
      simp only [if_pos hw]
    rw [e1]
    refine ⟨.inr rfl, by show (1 : Int) ≤ 1 + (m.wrong : Int); omega, rfl, fun h => ⟨rfl, fun h0 => h ?_⟩, b3, fun t q => b1 t ?_⟩
    · show (begins xor m c.tabs ((if decide (c.boxes.getD e 0 ≠ 0) = true then b else a).heads.take m.width) c.boxes c.near).2 = []
      rw [h0, List.take_zero]
      rfl
    · rcases List.mem_append.mp q with q | q
      · exact q
      · nomatch q
  · have e1 : (iffy xor m e a b path c).2 = ⟨path, .ite e a b, 1, [], none, none⟩ := by
      unfold iffy
      simp only [if_neg hw]
    rw [e1]
    exact ⟨.inl rfl, Int.le_refl 1, rfl, fun h => (h rfl).elim, Nat.zero_le _, fun t q => (nomatch q)⟩
theorem leaf_ok (O : Ops xor bits) (m : Mk) (hm : m.long ≤ 1) {x : Lf} (hx : x.ok) (path : List Nat) {c : Co} (g : c.Good) : EvOk m (leaf xor bits m x path c).2 := by
  have hw := fun i => wd_getD g.w i
  cases x with
  | deed d =>
    have e0 : ∀ v : Int, 1 ≤ v → fits m (.lf (.deed d)) v → EvOk m ⟨path, .lf (.deed d), v, [], none, none⟩ := fun v h1 h2 => ⟨h2, h1, rfl, fun h => (h rfl).elim, Nat.zero_le _, fun t q => (nomatch q)⟩
    cases d with
    | set b n => exact e0 1 (Int.le_refl 1) (by rfl)
    | copy b n => exact e0 1 (Int.le_refl 1) (by rfl)
    | pick b n e f => exact e0 1 (Int.le_refl 1) (by rfl)
    | op2 o b e f =>
      cases o with
      | times =>
        have q : moreW xor bits m (.op2 .times b e f) c.boxes = if m.long = 0 then 0 else bits (c.boxes.getD f 0) := rfl
        have q2 := O.b0 _ (hw f)
        refine e0 _ ?_ ?_
        · rw [q]; split <;> omega
        · show 1 ≤ _ ∧ _ ≤ _
          rw [q]
          split <;> omega
      | parts =>
        have q : moreW xor bits m (.op2 .parts b e f) c.boxes = if m.long = 0 then 0 else opW xor .parts (c.boxes.getD e 0) (c.boxes.getD f 0) := rfl
        have q2 := opW_wd O .parts (hw e) (hw f)
        obtain ⟨q3, q4⟩ := q2
        refine e0 _ ?_ ?_
        · rw [q]; split <;> omega
        · show 1 ≤ _ ∧ _ ≤ _
          rw [q]
          split <;> omega
      | add => exact e0 1 (Int.le_refl 1) (by rfl)
      | sub => exact e0 1 (Int.le_refl 1) (by rfl)
      | less => exact e0 1 (Int.le_refl 1) (by rfl)
      | same => exact e0 1 (Int.le_refl 1) (by rfl)
      | mix => exact e0 1 (Int.le_refl 1) (by rfl)
  | take b t e => exact ⟨farOf_or _ _ _, farOf_one _ _ _, rfl, fun h => (h rfl).elim, Nat.zero_le _, fun t q => by rcases List.mem_singleton.mp q with rfl; exact roomOf_ok (hw e)⟩
  | put t e d => exact ⟨farOf_or _ _ _, farOf_one _ _ _, rfl, fun h => (h rfl).elim, Nat.zero_le _, fun t q => by rcases List.mem_singleton.mp q with rfl; exact roomOf_ok (hw e)⟩
  | touch t e => exact ⟨farOf_or _ _ _, farOf_one _ _ _, rfl, fun h => (h rfl).elim, Nat.zero_le _, fun t q => by rcases List.mem_singleton.mp q with rfl; exact roomOf_ok (hw e)⟩
  | tell e => exact ⟨rfl, Int.le_refl 1, rfl, fun h => (h rfl).elim, Nat.zero_le _, fun t q => (nomatch q)⟩
  | idle n => exact ⟨rfl, by show (1 : Int) ≤ (n : Int); have := hx.1; omega, rfl, fun h => (h rfl).elim, Nat.zero_le _, fun t q => (nomatch q)⟩

/-- standing within, one step on -/
theorem stands_more {p : P} {h : Hd} {r : P} (hp : p.heads = h :: r.heads) {A : List Nat} {k : Nat} {e : Ev} (q : StandsIn r A (k + 1) e) : StandsIn p A k e := by
  obtain ⟨i, t, h', e1, e2, e3⟩ := q
  refine ⟨i + 1, t, h', by rw [e1, show k + 1 + i = k + (i + 1) by omega], ?_, e3⟩
  rw [hp]
  exact e2
theorem stands_here {p : P} {h : Hd} {r : P} (hp : p.heads = h :: r.heads) {A : List Nat} {k : Nat} {e : Ev} (hpath : e.path = A ++ [k]) (hh : e.hd = h) : StandsIn p A k e :=
  ⟨0, [], h, hpath, by rw [hp]; rfl, by rw [hh]; rfl⟩
theorem stands_arm {p : P} {h : Hd} {r a : P} {j : Nat} (hp : p.heads = h :: r.heads) (ha : armOf h j = some a) {A : List Nat} {k : Nat} {e : Ev} (q : StandsIn a (A ++ [k] ++ [j]) 0 e) : StandsIn p A k e := by
  obtain ⟨i, t, h', e1, e2, e3⟩ := q
  refine ⟨0, j :: i :: t, h, by rw [e1]; simp, by rw [hp]; rfl, ?_⟩
  show (match armOf h j with
    | none => none
    | some q => match q.heads[i]? with
      | none => none
      | some h' => atH h' t) = some e.hd
  rw [ha]
  show (match a.heads[i]? with
      | none => none
      | some h' => atH h' t) = some e.hd
  rw [e2]
  exact e3
theorem sem_ok (O : Ops xor bits) (m : Mk) (hm : m.long ≤ 1) : ∀ (p : P) {d : Nat} (_ : p.ok d) (A : List Nat) (k : Nat) (c : Co), c.Good → ∀ e ∈ (sem xor bits m p A k c).2, EvOk m e ∧ StandsIn p A k e
  | .nil, _, _, _, _, _, _, _, q => nomatch q
  | .lf x r, d, ⟨_, h2, h3⟩, A, k, c, g, e, q => by
    have q : e ∈ (leaf xor bits m x (A ++ [k]) c).2 :: (sem xor bits m r A (k + 1) (leaf xor bits m x (A ++ [k]) c).1).2 := q
    rcases List.mem_cons.mp q with rfl | q
    · refine ⟨leaf_ok O m hm h2 _ g, stands_here (h := .lf x) rfl ?_ ?_⟩ <;> cases x <;> rfl
    · obtain ⟨a1, a2⟩ := sem_ok O m hm r h3 A (k + 1) _ (leaf_good O m h2 _ g) e q
      exact ⟨a1, stands_more (h := .lf x) rfl a2⟩
  | .ite f a b r, d, ⟨h1, h2, h3, h4, h5⟩, A, k, c, g, e, q => by
    have gi : (iffy xor m f a b (A ++ [k]) c).1.Good := g
    have ga : ∀ (a' : P) (j : Nat), a'.ok (d - 1) → (sem xor bits m a' (A ++ [k] ++ [j]) 0 (iffy xor m f a b (A ++ [k]) c).1).1.Good := fun a' j h => sem_good O m a' h _ _ _ gi
    rcases List.mem_append.mp (show e ∈ (pre _ _).2 ++ _ from q) with q | q
    · rcases List.mem_cons.mp (show e ∈ _ :: _ from q) with rfl | q
      · exact ⟨iffy_ok O m h3 h4 _ g, stands_here (h := .ite f a b) rfl rfl rfl⟩
      · split at q
        · obtain ⟨a1, a2⟩ := sem_ok O m hm a h3 _ _ _ gi e q
          exact ⟨a1, stands_arm (h := .ite f a b) rfl rfl a2⟩
        · obtain ⟨a1, a2⟩ := sem_ok O m hm b h4 _ _ _ gi e q
          exact ⟨a1, stands_arm (h := .ite f a b) rfl rfl a2⟩
    · have g2 : (pre (iffy xor m f a b (A ++ [k]) c).2 (if c.boxes.getD f 0 ≠ 0 then sem xor bits m a (A ++ [k] ++ [0]) 0 (iffy xor m f a b (A ++ [k]) c).1 else sem xor bits m b (A ++ [k] ++ [1]) 0 (iffy xor m f a b (A ++ [k]) c).1)).1.Good := by
        show (if _ then _ else _ : Co × List Ev).1.Good
        split
        · exact ga a 0 h3
        · exact ga b 1 h4
      obtain ⟨a1, a2⟩ := sem_ok O m hm r h5 A (k + 1) _ g2 e q
      exact ⟨a1, stands_more (h := .ite f a b) rfl a2⟩
  | .rnd n a r, d, ⟨h1, h2, h2', h3, h5⟩, A, k, c, g, e, q => by
    have ra := rep_all (Pr := Co.Good) (Pe := fun e => EvOk m e ∧ StandsIn (.rnd n a r) A k e) (f := fun c1 => pre (tick (.rnd n a) (A ++ [k])) (sem xor bits m a (A ++ [k] ++ [0]) 0 c1)) (fun c1 g1 => ⟨sem_good O m a h3 _ _ c1 g1, fun e q => by
      rcases List.mem_cons.mp (show e ∈ _ :: _ from q) with rfl | q
      · exact ⟨⟨rfl, by show (1 : Int) ≤ 1; decide, rfl, fun h => (h rfl).elim, Nat.zero_le _, fun t q => (nomatch q)⟩, stands_here (h := .rnd n a) rfl rfl rfl⟩
      · obtain ⟨a1, a2⟩ := sem_ok O m hm a h3 _ _ _ g1 e q
        exact ⟨a1, stands_arm (h := .rnd n a) rfl rfl a2⟩⟩) n c g
    rcases List.mem_append.mp (show e ∈ (rep _ _ _).2 ++ _ from q) with q | q
    · exact ra.2 e q
    · obtain ⟨a1, a2⟩ := sem_ok O m hm r h5 A (k + 1) _ ra.1 e q
      exact ⟨a1, stands_more (h := .rnd n a) rfl a2⟩
  | .trn f a r, d, ⟨h1, h2, h3, h5⟩, A, k, c, g, e, q => by
    have tk : EvOk m (tick (.trn f a) (A ++ [k])) ∧ StandsIn (.trn f a r) A k (tick (.trn f a) (A ++ [k])) :=
      ⟨⟨rfl, by show (1 : Int) ≤ 1; decide, rfl, fun h => (h rfl).elim, Nat.zero_le _, fun t q => (nomatch q)⟩, stands_here (h := .trn f a) rfl rfl rfl⟩
    have ra := rep_all (Pr := Co.Good) (Pe := fun e => EvOk m e ∧ StandsIn (.trn f a r) A k e) (f := fun c1 => pre (tick (.trn f a) (A ++ [k])) (sem xor bits m a (A ++ [k] ++ [0]) 0 c1)) (fun c1 g1 => ⟨sem_good O m a h3 _ _ c1 g1, fun e q => by
      rcases List.mem_cons.mp (show e ∈ _ :: _ from q) with rfl | q
      · exact tk
      · obtain ⟨a1, a2⟩ := sem_ok O m hm a h3 _ _ _ g1 e q
        exact ⟨a1, stands_arm (h := .trn f a) rfl rfl a2⟩⟩) (c.boxes.getD f 0).toNat c g
    rcases List.mem_append.mp (show e ∈ ((rep _ _ _).2 ++ [_]) ++ _ from q) with q | q
    · rcases List.mem_append.mp q with q | q
      · exact ra.2 e q
      · rcases List.mem_singleton.mp q with rfl
        exact tk
    · obtain ⟨a1, a2⟩ := sem_ok O m hm r h5 A (k + 1) _ ra.1 e q
      exact ⟨a1, stands_more (h := .trn f a) rfl a2⟩
end
end LB
namespace LB
section
variable {xor : Int → Int → Int} {bits : Int → Int}
/-! ### the same on every make -/
def keyOf (e : Ev) : List Nat × Hd × Option Int := (e.path, e.hd, e.told)
structure Alike (q q' : Co × List Ev) : Prop where
  boxes : q.1.boxes = q'.1.boxes
  tabs : q.1.tabs = q'.1.tabs
  evs : q.2.map keyOf = q'.2.map keyOf
theorem alike_then {q q' : Co × List Ev} {f f' : Co → Co × List Ev} (h : Alike q q') (hf : Alike (f q.1) (f' q'.1)) : Alike (thenE q f) (thenE q' f') :=
  ⟨hf.boxes, hf.tabs, by show (q.2 ++ _).map _ = (q'.2 ++ _).map _; rw [List.map_append, List.map_append, h.evs, hf.evs]⟩
theorem alike_pre {q q' : Co × List Ev} {e e' : Ev} (h : Alike q q') (he : keyOf e = keyOf e') : Alike (pre e q) (pre e' q') :=
  ⟨h.boxes, h.tabs, by show keyOf e :: _ = keyOf e' :: _; rw [he, h.evs]⟩
theorem alike_rep {f f' : Co → Co × List Ev} (hf : ∀ c c' : Co, c.boxes = c'.boxes → c.tabs = c'.tabs → Alike (f c) (f' c')) : ∀ (n : Nat) (c c' : Co), c.boxes = c'.boxes → c.tabs = c'.tabs → Alike (rep f n c) (rep f' n c')
  | 0, c, c', h1, h2 => ⟨h1, h2, rfl⟩
  | n + 1, c, c', h1, h2 => by
    have a := hf c c' h1 h2
    have b := alike_rep hf n _ _ a.boxes a.tabs
    exact ⟨b.boxes, b.tabs, by show ((f c).2 ++ _).map _ = ((f' c').2 ++ _).map _; rw [List.map_append, List.map_append, a.evs, b.evs]⟩
theorem alike_leaf (m m' : Mk) (x : Lf) (path : List Nat) {c c' : Co} (h1 : c.boxes = c'.boxes) (h2 : c.tabs = c'.tabs) :
    (leaf xor bits m x path c).1.boxes = (leaf xor bits m' x path c').1.boxes ∧ (leaf xor bits m x path c).1.tabs = (leaf xor bits m' x path c').1.tabs ∧ keyOf (leaf xor bits m x path c).2 = keyOf (leaf xor bits m' x path c').2 := by
  cases x <;> simp only [leaf, keyOf, h1, h2, and_self]
theorem sem_alike (m m' : Mk) : ∀ (p : P) (A : List Nat) (k : Nat) (c c' : Co), c.boxes = c'.boxes → c.tabs = c'.tabs → Alike (sem xor bits m p A k c) (sem xor bits m' p A k c')
  | .nil, _, _, _, _, h1, h2 => ⟨h1, h2, rfl⟩
  | .lf x r, A, k, c, c', h1, h2 => by
    obtain ⟨a1, a2, a3⟩ := alike_leaf (xor := xor) (bits := bits) m m' x (A ++ [k]) h1 h2
    exact alike_pre (sem_alike m m' r A (k + 1) _ _ a1 a2) a3
  | .ite e a b r, A, k, c, c', h1, h2 => by
    have q1 : (iffy xor m e a b (A ++ [k]) c).1.boxes = (iffy xor m' e a b (A ++ [k]) c').1.boxes := h1
    have q2 : (iffy xor m e a b (A ++ [k]) c).1.tabs = (iffy xor m' e a b (A ++ [k]) c').1.tabs := h2
    have u : Alike (pre (iffy xor m e a b (A ++ [k]) c).2 (if c.boxes.getD e 0 ≠ 0 then sem xor bits m a (A ++ [k] ++ [0]) 0 (iffy xor m e a b (A ++ [k]) c).1 else sem xor bits m b (A ++ [k] ++ [1]) 0 (iffy xor m e a b (A ++ [k]) c).1))
        (pre (iffy xor m' e a b (A ++ [k]) c').2 (if c'.boxes.getD e 0 ≠ 0 then sem xor bits m' a (A ++ [k] ++ [0]) 0 (iffy xor m' e a b (A ++ [k]) c').1 else sem xor bits m' b (A ++ [k] ++ [1]) 0 (iffy xor m' e a b (A ++ [k]) c').1)) := by
      refine alike_pre ?_ rfl
      rw [← h1]
      split
      · exact sem_alike m m' a _ _ _ _ q1 q2
      · exact sem_alike m m' b _ _ _ _ q1 q2
    exact alike_then u (sem_alike m m' r A (k + 1) _ _ u.boxes u.tabs)
  | .rnd n a r, A, k, c, c', h1, h2 => by
    have u := alike_rep (f := fun c1 => pre (tick (.rnd n a) (A ++ [k])) (sem xor bits m a (A ++ [k] ++ [0]) 0 c1)) (f' := fun c1 => pre (tick (.rnd n a) (A ++ [k])) (sem xor bits m' a (A ++ [k] ++ [0]) 0 c1))
      (fun d d' g1 g2 => alike_pre (sem_alike m m' a _ _ d d' g1 g2) rfl) n c c' h1 h2
    exact alike_then u (sem_alike m m' r A (k + 1) _ _ u.boxes u.tabs)
  | .trn e a r, A, k, c, c', h1, h2 => by
    have u := alike_rep (f := fun c1 => pre (tick (.trn e a) (A ++ [k])) (sem xor bits m a (A ++ [k] ++ [0]) 0 c1)) (f' := fun c1 => pre (tick (.trn e a) (A ++ [k])) (sem xor bits m' a (A ++ [k] ++ [0]) 0 c1))
      (fun d d' g1 g2 => alike_pre (sem_alike m m' a _ _ d d' g1 g2) rfl) (c.boxes.getD e 0).toNat c c' h1 h2
    have e1 : (c.boxes.getD e 0).toNat = (c'.boxes.getD e 0).toNat := by rw [h1]
    have u2 : Alike (thenE (rep (fun c1 => pre (tick (.trn e a) (A ++ [k])) (sem xor bits m a (A ++ [k] ++ [0]) 0 c1)) (c.boxes.getD e 0).toNat c) fun c1 => (c1, [tick (.trn e a) (A ++ [k])]))
        (thenE (rep (fun c1 => pre (tick (.trn e a) (A ++ [k])) (sem xor bits m' a (A ++ [k] ++ [0]) 0 c1)) (c'.boxes.getD e 0).toNat c') fun c1 => (c1, [tick (.trn e a) (A ++ [k])])) := by
      rw [← e1]
      exact alike_then u ⟨u.boxes, u.tabs, rfl⟩
    exact alike_then u2 (sem_alike m m' r A (k + 1) _ _ u2.boxes u2.tabs)
theorem told_of_keys : ∀ {l l' : List Ev}, l.map keyOf = l'.map keyOf → toldOf l = toldOf l'
  | [], [], _ => rfl
  | [], _ :: _, h => by simp at h
  | _ :: _, [], h => by simp at h
  | e :: l, e' :: l', h => by
    obtain ⟨h1, h2⟩ := List.cons.inj h
    have h3 : e.told = e'.told := congrArg (fun q : List Nat × Hd × Option Int => q.2.2) h1
    show e.told.toList ++ toldOf l = e'.told.toList ++ toldOf l'
    rw [h3, told_of_keys h2]
theorem len_of_keys {l l' : List Ev} (h : l.map keyOf = l'.map keyOf) : l.length = l'.length := by
  have := congrArg List.length h
  rwa [List.length_map, List.length_map] at this

/-! ### what was guessed: only the paths within are touched -/
/-- no path of the n steps from k on -/
def OutN (A : List Nat) (k n : Nat) (q : List Nat) : Prop := ∀ (i : Nat) (r : List Nat), i < n → q ≠ A ++ (k + i) :: r
def Out (A : List Nat) (k : Nat) (q : List Nat) : Prop := ∀ (i : Nat) (r : List Nat), q ≠ A ++ (k + i) :: r
theorem outN_more {A : List Nat} {k n : Nat} {q : List Nat} (h : OutN A k (n + 1) q) : OutN A (k + 1) n q := fun i r hi e => h (i + 1) r (by omega) (by rw [e, show k + 1 + i = k + (i + 1) by omega])
theorem outN_here {A : List Nat} {k n : Nat} {q : List Nat} (h : OutN A k (n + 1) q) : q ≠ A ++ [k] := h 0 [] (by omega)
theorem outN_arm {A : List Nat} {k n n' j : Nat} {q : List Nat} (h : OutN A k (n + 1) q) : OutN (A ++ [k] ++ [j]) 0 n' q := fun i r _ e => h 0 (j :: (0 + i) :: r) (by omega) (by rw [e]; simp)
theorem leaf_went (m : Mk) (x : Lf) (path : List Nat) (c : Co) : (leaf xor bits m x path c).1.went = c.went := by cases x <;> rfl
theorem rep_went {f : Co → Co × List Ev} {q : List Nat} (hf : ∀ c, (f c).1.went q = c.went q) : ∀ (n : Nat) (c : Co), (rep f n c).1.went q = c.went q
  | 0, _ => rfl
  | n + 1, c => (rep_went hf n (f c).1).trans (hf c)
theorem sem_wentN (m : Mk) : ∀ (p : P) (A : List Nat) (k : Nat) (c : Co) (q : List Nat), OutN A k p.len q → (sem xor bits m p A k c).1.went q = c.went q
  | .nil, _, _, _, _, _ => rfl
  | .lf x r, A, k, c, q, h => (sem_wentN m r A (k + 1) _ q (outN_more h)).trans (by rw [leaf_went])
  | .ite e a b r, A, k, c, q, h => by
    refine (sem_wentN m r A (k + 1) _ q (outN_more h)).trans ?_
    have hi : (iffy xor m e a b (A ++ [k]) c).1.went q = c.went q := if_neg (outN_here h)
    show (if _ then _ else _ : Co × List Ev).1.went q = _
    split
    · exact (sem_wentN m a _ _ _ q (outN_arm h)).trans hi
    · exact (sem_wentN m b _ _ _ q (outN_arm h)).trans hi
  | .rnd n a r, A, k, c, q, h => by
    refine (sem_wentN m r A (k + 1) _ q (outN_more h)).trans ?_
    exact rep_went (f := fun c1 => pre (tick (.rnd n a) (A ++ [k])) (sem xor bits m a (A ++ [k] ++ [0]) 0 c1)) (fun c1 => sem_wentN m a _ _ c1 q (outN_arm h)) n c
  | .trn e a r, A, k, c, q, h => by
    refine (sem_wentN m r A (k + 1) _ q (outN_more h)).trans ?_
    exact rep_went (f := fun c1 => pre (tick (.trn e a) (A ++ [k])) (sem xor bits m a (A ++ [k] ++ [0]) 0 c1)) (fun c1 => sem_wentN m a _ _ c1 q (outN_arm h)) _ c
theorem sem_went (m : Mk) (p : P) (A : List Nat) (k : Nat) (c : Co) (q : List Nat) (h : Out A k q) : (sem xor bits m p A k c).1.went q = c.went q := sem_wentN m p A k c q fun i r _ => h i r

/-! ### the same at other paths -/
/-- all of an event but its path, its step -/
def seenOf (e : Ev) : Int × List (Int × Int) × Option (Int × Int) × Option Int := (e.dur, e.begun, e.own, e.told)
structure Sim (A A' : List Nat) (k k' : Nat) (c c' : Co) : Prop where
  boxes : c.boxes = c'.boxes
  tabs : c.tabs = c'.tabs
  near : c.near = c'.near
  went : ∀ (i : Nat) (r : List Nat), c.went (A ++ (k + i) :: r) = c'.went (A' ++ (k' + i) :: r)
structure SimQ (A A' : List Nat) (k k' : Nat) (q q' : Co × List Ev) : Prop where
  co : Sim A A' k k' q.1 q'.1
  evs : q.2.map seenOf = q'.2.map seenOf
theorem sim_more {A A' : List Nat} {k k' : Nat} {c c' : Co} (h : Sim A A' k k' c c') : Sim A A' (k + 1) (k' + 1) c c' :=
  ⟨h.boxes, h.tabs, h.near, fun i r => by have := h.went (i + 1) r; rwa [show k + (i + 1) = k + 1 + i by omega, show k' + (i + 1) = k' + 1 + i by omega] at this⟩
theorem sim_arm {A A' : List Nat} {k k' : Nat} {c c' : Co} (h : Sim A A' k k' c c') (j : Nat) : Sim (A ++ [k] ++ [j]) (A' ++ [k'] ++ [j]) 0 0 c c' :=
  ⟨h.boxes, h.tabs, h.near, fun i r => by have := h.went 0 (j :: (0 + i) :: r); simpa using this⟩
/-- behind an arm: the relation about the arm's own paths, all other paths as they were -/
theorem sim_back {A A' : List Nat} {k k' j : Nat} {c c' d d' : Co} (h : Sim A A' k k' c c') (g : Sim (A ++ [k] ++ [j]) (A' ++ [k'] ++ [j]) 0 0 d d') (o : ∀ q, Out (A ++ [k] ++ [j]) 0 q → d.went q = c.went q) (o' : ∀ q, Out (A' ++ [k'] ++ [j]) 0 q → d'.went q = c'.went q) :
    Sim A A' k k' d d' := by
  refine ⟨g.boxes, g.tabs, g.near, fun i r => ?_⟩
  by_cases hin : ∃ (i' : Nat) (r' : List Nat), i = 0 ∧ r = j :: i' :: r'
  · obtain ⟨i', r', rfl, rfl⟩ := hin
    have := g.went i' r'
    simpa using this
  · have n1 : ∀ (B : List Nat) (z : Nat), Out (B ++ [z] ++ [j]) 0 (B ++ (z + i) :: r) := fun B z i' r' e => hin ⟨i', r', by
      have e2 : B ++ (z + i) :: r = B ++ (z :: j :: i' :: r') := by rw [e]; simp
      obtain ⟨e3, e4⟩ := List.cons.inj (List.append_cancel_left e2)
      exact ⟨by omega, e4⟩⟩
    rw [o _ (n1 A k), o' _ (n1 A' k')]
    exact h.went i r
theorem simq_rep {A A' : List Nat} {k k' : Nat} {f f' : Co → Co × List Ev} (hf : ∀ c c', Sim A A' k k' c c' → SimQ A A' k k' (f c) (f' c')) : ∀ (n : Nat) (c c' : Co), Sim A A' k k' c c' → SimQ A A' k k' (rep f n c) (rep f' n c')
  | 0, _, _, h => ⟨h, rfl⟩
  | n + 1, c, c', h => by
    have a := hf c c' h
    have b := simq_rep hf n _ _ a.co
    exact ⟨b.co, by show ((f c).2 ++ _).map _ = ((f' c').2 ++ _).map _; rw [List.map_append, List.map_append, a.evs, b.evs]⟩
theorem leaf_sim (m : Mk) (x : Lf) (path path' : List Nat) {A A' : List Nat} {k k' : Nat} {c c' : Co} (h : Sim A A' k k' c c') :
    Sim A A' k k' (leaf xor bits m x path c).1 (leaf xor bits m x path' c').1 ∧ seenOf (leaf xor bits m x path c).2 = seenOf (leaf xor bits m x path' c').2 := by
  obtain ⟨h1, h2, h3, h4⟩ := h
  have w : ∀ i r, (leaf xor bits m x path c).1.went (A ++ (k + i) :: r) = (leaf xor bits m x path' c').1.went (A' ++ (k' + i) :: r) := fun i r => by rw [leaf_went, leaf_went]; exact h4 i r
  cases x <;> exact ⟨⟨by simp only [leaf, h1, h2, h3], by simp only [leaf, h1, h2, h3], by simp only [leaf, h1, h2, h3], w⟩, by simp only [leaf, seenOf, h1, h2, h3]⟩
theorem iffy_sim (m : Mk) (e : Nat) (a b : P) {A A' : List Nat} {k k' : Nat} {c c' : Co} (h : Sim A A' k k' c c') :
    Sim A A' k k' (iffy xor m e a b (A ++ [k]) c).1 (iffy xor m e a b (A' ++ [k']) c').1 ∧ seenOf (iffy xor m e a b (A ++ [k]) c).2 = seenOf (iffy xor m e a b (A' ++ [k']) c').2 := by
  obtain ⟨h1, h2, h3, h4⟩ := h
  have w0 : c.went (A ++ [k]) = c'.went (A' ++ [k']) := h4 0 []
  refine ⟨⟨h1, h2, by simp only [iffy, h1, h2, h3, w0], fun i r => ?_⟩, by simp only [iffy, seenOf, h1, h2, h3, w0]⟩
  show goesPath c.went (A ++ [k]) (decide (c.boxes.getD e 0 ≠ 0)) (A ++ (k + i) :: r) = goesPath c'.went (A' ++ [k']) (decide (c'.boxes.getD e 0 ≠ 0)) (A' ++ (k' + i) :: r)
  unfold goesPath
  rw [h1]
  by_cases q : i = 0 ∧ r = []
  · obtain ⟨rfl, rfl⟩ := q
    rw [if_pos (by simp), if_pos (by simp)]
  · have n1 : ∀ (B : List Nat) (z : Nat), B ++ (z + i) :: r ≠ B ++ [z] := fun B z e => q (by
      obtain ⟨e3, e4⟩ := List.cons.inj (List.append_cancel_left e)
      exact ⟨by omega, e4⟩)
    rw [if_neg (n1 A k), if_neg (n1 A' k')]
    exact h4 i r
/-- behind the rest of the row -/
theorem sim_rest {A A' : List Nat} {k k' : Nat} {c c' d d' : Co} (h : Sim A A' k k' c c') (g : Sim A A' (k + 1) (k' + 1) d d') (o : ∀ q, Out A (k + 1) q → d.went q = c.went q) (o' : ∀ q, Out A' (k' + 1) q → d'.went q = c'.went q) : Sim A A' k k' d d' := by
  refine ⟨g.boxes, g.tabs, g.near, fun i r => ?_⟩
  match i with
  | 0 =>
    have n1 : ∀ (B : List Nat) (z : Nat), Out B (z + 1) (B ++ (z + 0) :: r) := fun B z i' r' e => by
      obtain ⟨e3, _⟩ := List.cons.inj (List.append_cancel_left e)
      omega
    rw [o _ (n1 A k), o' _ (n1 A' k')]
    exact h.went 0 r
  | i + 1 =>
    have := g.went i r
    rwa [show k + 1 + i = k + (i + 1) by omega, show k' + 1 + i = k' + (i + 1) by omega] at this
theorem sem_sim (m : Mk) : ∀ (p : P) (A A' : List Nat) (k k' : Nat) (c c' : Co), Sim A A' k k' c c' → SimQ A A' k k' (sem xor bits m p A k c) (sem xor bits m p A' k' c')
  | .nil, _, _, _, _, _, _, h => ⟨h, rfl⟩
  | .lf x r, A, A', k, k', c, c', h => by
    obtain ⟨a1, a2⟩ := leaf_sim (xor := xor) (bits := bits) m x (A ++ [k]) (A' ++ [k']) h
    have b := sem_sim m r A A' (k + 1) (k' + 1) _ _ (sim_more a1)
    exact ⟨sim_rest a1 b.co (fun q h => sem_went m r _ _ _ q h) (fun q h => sem_went m r _ _ _ q h), by show seenOf _ :: _ = seenOf _ :: _; rw [a2, b.evs]⟩
  | .ite e a b r, A, A', k, k', c, c', h => by
    obtain ⟨a1, a2⟩ := iffy_sim (xor := xor) m e a b h
    have u : SimQ A A' k k' (pre (iffy xor m e a b (A ++ [k]) c).2 (if c.boxes.getD e 0 ≠ 0 then sem xor bits m a (A ++ [k] ++ [0]) 0 (iffy xor m e a b (A ++ [k]) c).1 else sem xor bits m b (A ++ [k] ++ [1]) 0 (iffy xor m e a b (A ++ [k]) c).1))
        (pre (iffy xor m e a b (A' ++ [k']) c').2 (if c'.boxes.getD e 0 ≠ 0 then sem xor bits m a (A' ++ [k'] ++ [0]) 0 (iffy xor m e a b (A' ++ [k']) c').1 else sem xor bits m b (A' ++ [k'] ++ [1]) 0 (iffy xor m e a b (A' ++ [k']) c').1)) := by
      have e0 : c.boxes.getD e 0 = c'.boxes.getD e 0 := by rw [h.boxes]
      rw [← e0]
      split
      · have q := sem_sim m a _ _ 0 0 _ _ (sim_arm a1 0)
        exact ⟨sim_back a1 q.co (fun q h => sem_went m a _ _ _ q h) (fun q h => sem_went m a _ _ _ q h), by show seenOf _ :: _ = seenOf _ :: _; rw [a2, q.evs]⟩
      · have q := sem_sim m b _ _ 0 0 _ _ (sim_arm a1 1)
        exact ⟨sim_back a1 q.co (fun q h => sem_went m b _ _ _ q h) (fun q h => sem_went m b _ _ _ q h), by show seenOf _ :: _ = seenOf _ :: _; rw [a2, q.evs]⟩
    have v := sem_sim m r A A' (k + 1) (k' + 1) _ _ (sim_more u.co)
    exact ⟨sim_rest u.co v.co (fun q h => sem_went m r _ _ _ q h) (fun q h => sem_went m r _ _ _ q h), by show List.map seenOf (_ ++ _) = List.map seenOf (_ ++ _); rw [List.map_append, List.map_append, u.evs, v.evs]⟩
  | .rnd n a r, A, A', k, k', c, c', h => by
    have u := simq_rep (f := fun c1 => pre (tick (.rnd n a) (A ++ [k])) (sem xor bits m a (A ++ [k] ++ [0]) 0 c1)) (f' := fun c1 => pre (tick (.rnd n a) (A' ++ [k'])) (sem xor bits m a (A' ++ [k'] ++ [0]) 0 c1)) (fun d d' g => by
      have q := sem_sim m a _ _ 0 0 _ _ (sim_arm g 0)
      exact ⟨sim_back g q.co (fun q h => sem_went m a _ _ _ q h) (fun q h => sem_went m a _ _ _ q h), by show seenOf _ :: _ = seenOf _ :: _; rw [q.evs]; rfl⟩) n c c' h
    have v := sem_sim m r A A' (k + 1) (k' + 1) _ _ (sim_more u.co)
    exact ⟨sim_rest u.co v.co (fun q h => sem_went m r _ _ _ q h) (fun q h => sem_went m r _ _ _ q h), by show List.map seenOf (_ ++ _) = List.map seenOf (_ ++ _); rw [List.map_append, List.map_append, u.evs, v.evs]⟩
  | .trn e a r, A, A', k, k', c, c', h => by
    have e0 : c.boxes.getD e 0 = c'.boxes.getD e 0 := by rw [h.boxes]
    have u := simq_rep (f := fun c1 => pre (tick (.trn e a) (A ++ [k])) (sem xor bits m a (A ++ [k] ++ [0]) 0 c1)) (f' := fun c1 => pre (tick (.trn e a) (A' ++ [k'])) (sem xor bits m a (A' ++ [k'] ++ [0]) 0 c1)) (fun d d' g => by
      have q := sem_sim m a _ _ 0 0 _ _ (sim_arm g 0)
      exact ⟨sim_back g q.co (fun q h => sem_went m a _ _ _ q h) (fun q h => sem_went m a _ _ _ q h), by show seenOf _ :: _ = seenOf _ :: _; rw [q.evs]; rfl⟩) (c.boxes.getD e 0).toNat c c' h
    have u2 : SimQ A A' k k' (thenE (rep (fun c1 => pre (tick (.trn e a) (A ++ [k])) (sem xor bits m a (A ++ [k] ++ [0]) 0 c1)) (c.boxes.getD e 0).toNat c) fun c1 => (c1, [tick (.trn e a) (A ++ [k])]))
        (thenE (rep (fun c1 => pre (tick (.trn e a) (A' ++ [k'])) (sem xor bits m a (A' ++ [k'] ++ [0]) 0 c1)) (c'.boxes.getD e 0).toNat c') fun c1 => (c1, [tick (.trn e a) (A' ++ [k'])])) := by
      rw [← e0]
      exact ⟨u.co, by show List.map seenOf (_ ++ [_]) = List.map seenOf (_ ++ [_]); rw [List.map_append, List.map_append, u.evs]; rfl⟩
    have v := sem_sim m r A A' (k + 1) (k' + 1) _ _ (sim_more u2.co)
    exact ⟨sim_rest u2.co v.co (fun q h => sem_went m r _ _ _ q h) (fun q h => sem_went m r _ _ _ q h), by show List.map seenOf (_ ++ _) = List.map seenOf (_ ++ _); rw [List.map_append, List.map_append, u2.evs, v.evs]⟩
theorem dur_of_seen : ∀ {l l' : List Ev}, l.map seenOf = l'.map seenOf → dursOf l = dursOf l'
  | [], [], _ => rfl
  | [], _ :: _, h => by simp at h
  | _ :: _, [], h => by simp at h
  | e :: l, e' :: l', h => by
    obtain ⟨h1, h2⟩ := List.cons.inj h
    have h3 : e.dur = e'.dur := congrArg Prod.fst h1
    show e.dur + dursOf l = e'.dur + dursOf l'
    rw [h3, dur_of_seen h2]
theorem touches_of_seen : ∀ {l l' : List Ev} (b : Int), l.map seenOf = l'.map seenOf → touchesOf b l = touchesOf b l'
  | [], [], _, _ => rfl
  | [], _ :: _, _, h => by simp at h
  | _ :: _, [], _, h => by simp at h
  | e :: l, e' :: l', b, h => by
    obtain ⟨h1, h2⟩ := List.cons.inj h
    have h3 : e.dur = e'.dur := congrArg Prod.fst h1
    have h4 : e.begun = e'.begun := congrArg (fun q : Int × List (Int × Int) × Option (Int × Int) × Option Int => q.2.1) h1
    have h5 : e.own = e'.own := congrArg (fun q : Int × List (Int × Int) × Option (Int × Int) × Option Int => q.2.2.1) h1
    show (e.begun ++ e.own.toList).map _ ++ _ = (e'.begun ++ e'.own.toList).map _ ++ _
    rw [h3, h4, h5, touches_of_seen _ h2]
theorem told_of_seen : ∀ {l l' : List Ev}, l.map seenOf = l'.map seenOf → toldOf l = toldOf l'
  | [], [], _ => rfl
  | [], _ :: _, h => by simp at h
  | _ :: _, [], h => by simp at h
  | e :: l, e' :: l', h => by
    obtain ⟨h1, h2⟩ := List.cons.inj h
    have h3 : e.told = e'.told := congrArg (fun q : Int × List (Int × Int) × Option (Int × Int) × Option Int => q.2.2.2) h1
    show e.told.toList ++ toldOf l = e'.told.toList ++ toldOf l'
    rw [h3, told_of_seen h2]

/-! ### one behind the other -/
theorem sem_app (m : Mk) : ∀ (p q : P) (A : List Nat) (k : Nat) (c : Co), sem xor bits m (p.app q) A k c = thenE (sem xor bits m p A k c) fun c1 => sem xor bits m q A (k + p.len) c1
  | .nil, q, A, k, c => rfl
  | .lf x r, q, A, k, c => by
    show pre _ (sem xor bits m (r.app q) A (k + 1) _) = thenE (pre _ (sem xor bits m r A (k + 1) _)) _
    rw [sem_app m r q A (k + 1), show k + (P.lf x r).len = k + 1 + r.len by show k + (r.len + 1) = _; omega]
    rfl
  | .ite e a b r, q, A, k, c => by
    show thenE _ (fun c1 => sem xor bits m (r.app q) A (k + 1) c1) = thenE (thenE _ fun c1 => sem xor bits m r A (k + 1) c1) _
    rw [show (fun c1 => sem xor bits m (r.app q) A (k + 1) c1) = fun c1 => thenE (sem xor bits m r A (k + 1) c1) fun c2 => sem xor bits m q A (k + 1 + r.len) c2 from funext fun c1 => sem_app m r q A (k + 1) c1,
      show k + (P.ite e a b r).len = k + 1 + r.len by show k + (r.len + 1) = _; omega]
    simp only [thenE, List.append_assoc]
  | .rnd n a r, q, A, k, c => by
    show thenE _ (fun c1 => sem xor bits m (r.app q) A (k + 1) c1) = thenE (thenE _ fun c1 => sem xor bits m r A (k + 1) c1) _
    rw [show (fun c1 => sem xor bits m (r.app q) A (k + 1) c1) = fun c1 => thenE (sem xor bits m r A (k + 1) c1) fun c2 => sem xor bits m q A (k + 1 + r.len) c2 from funext fun c1 => sem_app m r q A (k + 1) c1,
      show k + (P.rnd n a r).len = k + 1 + r.len by show k + (r.len + 1) = _; omega]
    simp only [thenE, List.append_assoc]
  | .trn e a r, q, A, k, c => by
    show thenE _ (fun c1 => sem xor bits m (r.app q) A (k + 1) c1) = thenE (thenE _ fun c1 => sem xor bits m r A (k + 1) c1) _
    rw [show (fun c1 => sem xor bits m (r.app q) A (k + 1) c1) = fun c1 => thenE (sem xor bits m r A (k + 1) c1) fun c2 => sem xor bits m q A (k + 1 + r.len) c2 from funext fun c1 => sem_app m r q A (k + 1) c1,
      show k + (P.trn e a r).len = k + 1 + r.len by show k + (r.len + 1) = _; omega]
    simp only [thenE, List.append_assoc]

/-! ### no rooms near -/
theorem nearer0 {m : Mk} (h : m.near = 0) (nr : List (Int × Int)) (rm : Int × Int) : nearer m nr rm = [] := by unfold nearer; rw [h, List.take_zero]
theorem begins0 {m : Mk} (h : m.near = 0) (tabs : List (List Int)) : ∀ (l : List Hd) (bx : List Int) (nr : List (Int × Int)), nr = [] → (begins xor m tabs l bx nr).1 = []
  | [], _, _, e => e
  | .lf (.deed d) :: r, bx, nr, e => begins0 h tabs r _ nr e
  | .lf (.take b t c) :: r, bx, nr, e => begins0 h tabs r _ _ (nearer0 h _ _)
  | .lf (.put t c _) :: r, bx, nr, e => begins0 h tabs r _ _ (nearer0 h _ _)
  | .lf (.touch t c) :: r, bx, nr, e => begins0 h tabs r _ _ (nearer0 h _ _)
  | .lf (.tell _) :: _, _, _, e => e
  | .lf (.idle _) :: _, _, _, e => e
  | .ite _ _ _ :: _, _, _, e => e
  | .rnd _ _ :: _, _, _, e => e
  | .trn _ _ :: _, _, _, e => e
theorem leaf0 {m : Mk} (h : m.near = 0) (x : Lf) (path : List Nat) {c : Co} (e : c.near = []) : (leaf xor bits m x path c).1.near = [] := by
  cases x with
  | deed d => exact e
  | take b t f => exact nearer0 h _ _
  | put t f d => exact nearer0 h _ _
  | touch t f => exact nearer0 h _ _
  | tell f => exact e
  | idle n => exact e
theorem iffy0 {m : Mk} (h : m.near = 0) (f : Nat) (a b : P) (path : List Nat) {c : Co} (e : c.near = []) : (iffy xor m f a b path c).1.near = [] := by
  show (if _ then _ else _ : List (Int × Int) × List (Int × Int)).1 = []
  split
  · exact begins0 h _ _ _ _ e
  · exact e
theorem sem0 {m : Mk} (h : m.near = 0) : ∀ (p : P) (A : List Nat) (k : Nat) (c : Co), c.near = [] → (sem xor bits m p A k c).1.near = []
  | .nil, _, _, _, e => e
  | .lf x r, A, k, c, e => sem0 h r A (k + 1) _ (leaf0 h x _ e)
  | .ite f a b r, A, k, c, e => by
    refine sem0 h r A (k + 1) _ ?_
    show (if _ then _ else _ : Co × List Ev).1.near = []
    split
    · exact sem0 h a _ _ _ (iffy0 h f a b _ e)
    · exact sem0 h b _ _ _ (iffy0 h f a b _ e)
  | .rnd n a r, A, k, c, e => by
    refine sem0 h r A (k + 1) _ ?_
    refine (rep_all (Pr := fun c => c.near = []) (Pe := fun _ => True) ?_ n c e).1
    exact fun c1 g => ⟨sem0 h a _ _ c1 g, fun _ _ => trivial⟩
  | .trn f a r, A, k, c, e => by
    refine sem0 h r A (k + 1) _ ?_
    refine (rep_all (Pr := fun c => c.near = []) (Pe := fun _ => True) ?_ _ c e).1
    exact fun c1 g => ⟨sem0 h a _ _ c1 g, fun _ _ => trivial⟩
end

/-! ### runs -/
section
variable (xor : Int → Int → Int) (bits : Int → Int)
def start0 (w : List Int × List (List Int)) : Co := ⟨w.1, w.2, [], fun _ => true⟩
def runQ (m : Mk) (p : P) (w : List Int × List (List Int)) : Co × List Ev := sem xor bits m p [] 0 (start0 w)
def init (w : List Int × List (List Int)) : S := ⟨w.1, w.2, [], 0, [], [], fun _ => true, []⟩
/-- a run's end -/
def runS (m : Mk) (p : P) (w : List Int × List (List Int)) : S := (init w).add (runQ xor bits m p w)
variable {xor bits}
theorem runS_met (m : Mk) (p : P) (w : List Int × List (List Int)) : (runS xor bits m p w).met = metOf 0 (runQ xor bits m p w).2 := rfl
theorem runS_len (m : Mk) (p : P) (w : List Int × List (List Int)) : (runS xor bits m p w).met.length = (runQ xor bits m p w).2.length := metOf_len 0 _
theorem runS_beats (m : Mk) (p : P) (w : List Int × List (List Int)) : (runS xor bits m p w).beats = dursOf (runQ xor bits m p w).2 := Int.zero_add _
theorem runS_touches (m : Mk) (p : P) (w : List Int × List (List Int)) : (runS xor bits m p w).touches = touchesOf 0 (runQ xor bits m p w).2 := rfl
theorem runS_said (m : Mk) (p : P) (w : List Int × List (List Int)) : (runS xor bits m p w).said = toldOf (runQ xor bits m p w).2 := rfl
/-- the same words told, the same world behind, as many events on every make -/
theorem run_makes (m m' : Mk) (p : P) (w : List Int × List (List Int)) : (runS xor bits m p w).said = (runS xor bits m' p w).said ∧ (runS xor bits m p w).boxes = (runS xor bits m' p w).boxes ∧ (runS xor bits m p w).tabs = (runS xor bits m' p w).tabs ∧ (runS xor bits m p w).met.length = (runS xor bits m' p w).met.length := by
  have a := sem_alike (xor := xor) (bits := bits) m m' p [] 0 (start0 w) (start0 w) rfl rfl
  exact ⟨told_of_keys a.evs, a.boxes, a.tabs, by rw [runS_len, runS_len]; exact len_of_keys a.evs⟩
/-- within a round of 1 -/
theorem run_round (m : Mk) (p : P) (w : List Int × List (List Int)) : (runS xor bits m (.rnd 1 p .nil) w).said = (runS xor bits m p w).said ∧ (runS xor bits m (.rnd 1 p .nil) w).boxes = (runS xor bits m p w).boxes ∧ (runS xor bits m (.rnd 1 p .nil) w).tabs = (runS xor bits m p w).tabs ∧
    (runS xor bits m (.rnd 1 p .nil) w).beats = (runS xor bits m p w).beats + 1 ∧ (runS xor bits m (.rnd 1 p .nil) w).touches = (runS xor bits m p w).touches.map (fun t => (t.1 + 1, t.2.1, t.2.2)) ∧ (runS xor bits m (.rnd 1 p .nil) w).met.length = (runS xor bits m p w).met.length + 1 := by
  have s := sem_sim (xor := xor) (bits := bits) m p ([] ++ [0] ++ [0]) [] 0 0 (start0 w) (start0 w) ⟨rfl, rfl, rfl, fun _ _ => rfl⟩
  have e : runQ xor bits m (.rnd 1 p .nil) w = ((sem xor bits m p ([] ++ [0] ++ [0]) 0 (start0 w)).1, tick (.rnd 1 p) ([] ++ [0]) :: (sem xor bits m p ([] ++ [0] ++ [0]) 0 (start0 w)).2) := by
    show (_, ((_ :: _) ++ []) ++ []) = _
    rw [List.append_nil, List.append_nil]
    rfl
  refine ⟨?_, ?_, ?_, ?_, ?_, ?_⟩
  · rw [runS_said, runS_said, e]
    show toldOf (sem xor bits m p ([] ++ [0] ++ [0]) 0 (start0 w)).2 = _
    exact told_of_seen s.evs
  · show (runQ _ _ _ _ _).1.boxes = _
    rw [e]
    exact s.co.boxes
  · show (runQ _ _ _ _ _).1.tabs = _
    rw [e]
    exact s.co.tabs
  · rw [runS_beats, runS_beats, e]
    show 1 + dursOf _ = dursOf _ + 1
    rw [dur_of_seen s.evs, Int.add_comm]
    rfl
  · rw [runS_touches, runS_touches, e]
    show touchesOf (0 + 1) _ = _
    rw [touches_of_seen _ s.evs, show (0 : Int) + 1 = 1 + 0 from rfl, touchesOf_shift]
    refine List.map_congr_left fun t _ => ?_
    rw [Int.add_comm]
  · rw [runS_len, runS_len, e]
    show (_ :: _ : List Ev).length = _
    rw [List.length_cons]
    have := congrArg List.length s.evs
    rw [List.length_map, List.length_map] at this
    rw [this]
    rfl
/-- one behind the other, no rooms near -/
theorem run_app {m : Mk} (h0 : m.near = 0) (p q : P) (w : List Int × List (List Int)) :
    (runS xor bits m (p.app q) w).said = (runS xor bits m p w).said ++ (runS xor bits m q ((runS xor bits m p w).boxes, (runS xor bits m p w).tabs)).said ∧
    (runS xor bits m (p.app q) w).boxes = (runS xor bits m q ((runS xor bits m p w).boxes, (runS xor bits m p w).tabs)).boxes ∧ (runS xor bits m (p.app q) w).tabs = (runS xor bits m q ((runS xor bits m p w).boxes, (runS xor bits m p w).tabs)).tabs ∧
    (runS xor bits m (p.app q) w).beats = (runS xor bits m p w).beats + (runS xor bits m q ((runS xor bits m p w).boxes, (runS xor bits m p w).tabs)).beats ∧
    (runS xor bits m (p.app q) w).touches = (runS xor bits m p w).touches ++ (runS xor bits m q ((runS xor bits m p w).boxes, (runS xor bits m p w).tabs)).touches.map (fun t => ((runS xor bits m p w).beats + t.1, t.2.1, t.2.2)) ∧
    (runS xor bits m (p.app q) w).met.length = (runS xor bits m p w).met.length + (runS xor bits m q ((runS xor bits m p w).boxes, (runS xor bits m p w).tabs)).met.length := by
  have e := sem_app (xor := xor) (bits := bits) m p q [] 0 (start0 w)
  have n := sem0 (xor := xor) (bits := bits) h0 p [] 0 (start0 w) rfl
  have s := sem_sim (xor := xor) (bits := bits) m q [] [] (0 + p.len) 0 (sem xor bits m p [] 0 (start0 w)).1 (start0 ((runS xor bits m p w).boxes, (runS xor bits m p w).tabs)) ⟨rfl, rfl, n, fun i r => by
    refine sem_wentN m p [] 0 (start0 w) _ fun j r' hj e => ?_
    obtain ⟨e3, _⟩ := List.cons.inj e
    omega⟩
  have e2 : runQ xor bits m (p.app q) w = ((sem xor bits m q [] (0 + p.len) (sem xor bits m p [] 0 (start0 w)).1).1, (runQ xor bits m p w).2 ++ (sem xor bits m q [] (0 + p.len) (sem xor bits m p [] 0 (start0 w)).1).2) := e
  refine ⟨?_, ?_, ?_, ?_, ?_, ?_⟩
  · rw [runS_said, runS_said, runS_said, e2, toldOf_app]
    exact congrArg _ (told_of_seen s.evs)
  · show (runQ _ _ _ _ _).1.boxes = _
    rw [e2]
    exact s.co.boxes
  · show (runQ _ _ _ _ _).1.tabs = _
    rw [e2]
    exact s.co.tabs
  · rw [runS_beats, runS_beats, runS_beats, e2, dursOf_app]
    exact congrArg _ (dur_of_seen s.evs)
  · rw [runS_touches, runS_touches, runS_touches, runS_beats, e2, touchesOf_app]
    refine congrArg _ ?_
    show touchesOf (0 + dursOf (runQ xor bits m p w).2) _ = _
    rw [touches_of_seen _ s.evs, Int.add_comm 0, touchesOf_shift]
    rfl
  · rw [runS_len, runS_len, runS_len, e2, List.length_append]
    have := congrArg List.length s.evs
    rw [List.length_map, List.length_map] at this
    exact congrArg _ this
end
end LB
namespace LB
section
variable (xor : Int → Int → Int) (bits : Int → Int)
/-- one step -/
def hdSem (m : Mk) : Hd → List Nat → Co → Co × List Ev
  | .lf x, path, c => ((leaf xor bits m x path c).1, [(leaf xor bits m x path c).2])
  | .ite e a b, path, c => pre (iffy xor m e a b path c).2 (if c.boxes.getD e 0 ≠ 0 then sem xor bits m a (path ++ [0]) 0 (iffy xor m e a b path c).1 else sem xor bits m b (path ++ [1]) 0 (iffy xor m e a b path c).1)
  | .rnd n a, path, c => rep (fun c1 => pre (tick (.rnd n a) path) (sem xor bits m a (path ++ [0]) 0 c1)) n c
  | .trn e a, path, c => thenE (rep (fun c1 => pre (tick (.trn e a) path) (sem xor bits m a (path ++ [0]) 0 c1)) (c.boxes.getD e 0).toNat c) fun c1 => (c1, [tick (.trn e a) path])
def semL (m : Mk) : List Hd → List Nat → Nat → Co → Co × List Ev
  | [], _, _, c => (c, [])
  | h :: r, A, k, c => thenE (hdSem xor bits m h (A ++ [k]) c) fun c1 => semL m r A (k + 1) c1
variable {xor bits}
theorem sem_semL (m : Mk) : ∀ (p : P) (A : List Nat) (k : Nat) (c : Co), sem xor bits m p A k c = semL xor bits m p.heads A k c
  | .nil, _, _, _ => rfl
  | .lf x r, A, k, c => by
    show pre _ (sem xor bits m r A (k + 1) _) = thenE _ _
    rw [sem_semL m r A (k + 1)]
    rfl
  | .ite e a b r, A, k, c => by
    show thenE _ (fun c1 => sem xor bits m r A (k + 1) c1) = thenE _ (fun c1 => semL xor bits m r.heads A (k + 1) c1)
    rw [funext fun c1 => sem_semL m r A (k + 1) c1]
    rfl
  | .rnd n a r, A, k, c => by
    show thenE _ (fun c1 => sem xor bits m r A (k + 1) c1) = thenE _ (fun c1 => semL xor bits m r.heads A (k + 1) c1)
    rw [funext fun c1 => sem_semL m r A (k + 1) c1]
    rfl
  | .trn e a r, A, k, c => by
    show thenE _ (fun c1 => sem xor bits m r A (k + 1) c1) = thenE _ (fun c1 => semL xor bits m r.heads A (k + 1) c1)
    rw [funext fun c1 => sem_semL m r A (k + 1) c1]
    rfl
theorem thenE_assoc (q : Co × List Ev) (f g : Co → Co × List Ev) : thenE (thenE q f) g = thenE q fun c => thenE (f c) g := by simp only [thenE, List.append_assoc]
theorem semL_snoc (m : Mk) : ∀ (l : List Hd) (h : Hd) (A : List Nat) (k : Nat) (c : Co), semL xor bits m (l ++ [h]) A k c = thenE (semL xor bits m l A k c) fun c1 => hdSem xor bits m h (A ++ [k + l.length]) c1
  | [], h, A, k, c => by
    show thenE (hdSem xor bits m h (A ++ [k]) c) (fun c1 => (c1, [])) = thenE (c, []) _
    simp only [thenE, List.append_nil, List.nil_append]
    rfl
  | x :: l, h, A, k, c => by
    show thenE _ (fun c1 => semL xor bits m (l ++ [h]) A (k + 1) c1) = thenE (thenE _ _) _
    rw [thenE_assoc]
    congr 1
    funext c1
    rw [semL_snoc m l h A (k + 1) c1, show k + 1 + l.length = k + (x :: l).length by simp; omega]
theorem rep_snoc (f : Co → Co × List Ev) : ∀ (n : Nat) (c : Co), rep f (n + 1) c = thenE (rep f n c) f
  | 0, c => by simp [rep, thenE]
  | n + 1, c => by
    have ih := rep_snoc f n (f c).1
    show ((rep f (n + 1) (f c).1).1, (f c).2 ++ (rep f (n + 1) (f c).1).2) = _
    rw [ih]
    simp only [rep, thenE, List.append_assoc]
def Hd.toP : Hd → P
  | .lf x => .lf x .nil
  | .ite c a b => .ite c a b .nil
  | .rnd n a => .rnd n a .nil
  | .trn c a => .trn c a .nil
theorem toP_ok {h : Hd} {d : Nat} (hk : h.ok d) (h1 : 1 ≤ d) : h.toP.ok d := by
  cases h with
  | lf x => exact ⟨h1, hk, trivial⟩
  | ite c a b => exact ⟨h1, hk.1, hk.2.1, hk.2.2, trivial⟩
  | rnd n a => exact ⟨h1, hk.1, hk.2.1, hk.2.2, trivial⟩
  | trn c a => exact ⟨h1, hk.1, hk.2, trivial⟩
theorem thenE_nil (q : Co × List Ev) : thenE q (fun c => (c, [])) = q := by simp [thenE]
theorem hdSem_toP (m : Mk) (h : Hd) (A : List Nat) (k : Nat) (c : Co) : hdSem xor bits m h (A ++ [k]) c = sem xor bits m h.toP A k c := by
  cases h with
  | lf x => rfl
  | ite e a b => exact (thenE_nil _).symm
  | rnd n a => exact (thenE_nil _).symm
  | trn e a => exact (thenE_nil _).symm

/-! ### how much is near -/
theorem nearer_le (m : Mk) (nr : List (Int × Int)) (rm : Int × Int) : (nearer m nr rm).length ≤ m.near := by unfold nearer; rw [List.length_take]; exact Nat.min_le_left _ _
theorem begins_near (m : Mk) (tabs : List (List Int)) {n : Nat} (hn : m.near ≤ n) : ∀ (l : List Hd) (bx : List Int) (nr : List (Int × Int)), nr.length ≤ n → (begins xor m tabs l bx nr).1.length ≤ n
  | [], _, _, e => e
  | .lf (.deed d) :: r, bx, nr, e => begins_near m tabs hn r _ nr e
  | .lf (.take b t c) :: r, bx, nr, e => begins_near m tabs hn r _ _ (Nat.le_trans (nearer_le _ _ _) hn)
  | .lf (.put t c _) :: r, bx, nr, e => begins_near m tabs hn r _ _ (Nat.le_trans (nearer_le _ _ _) hn)
  | .lf (.touch t c) :: r, bx, nr, e => begins_near m tabs hn r _ _ (Nat.le_trans (nearer_le _ _ _) hn)
  | .lf (.tell _) :: _, _, _, e => e
  | .lf (.idle _) :: _, _, _, e => e
  | .ite _ _ _ :: _, _, _, e => e
  | .rnd _ _ :: _, _, _, e => e
  | .trn _ _ :: _, _, _, e => e
theorem leaf_near (m : Mk) {n : Nat} (hn : m.near ≤ n) (x : Lf) (path : List Nat) {c : Co} (e : c.near.length ≤ n) : (leaf xor bits m x path c).1.near.length ≤ n := by
  cases x with
  | deed d => exact e
  | take b t f => exact Nat.le_trans (nearer_le _ _ _) hn
  | put t f d => exact Nat.le_trans (nearer_le _ _ _) hn
  | touch t f => exact Nat.le_trans (nearer_le _ _ _) hn
  | tell f => exact e
  | idle n => exact e
theorem iffy_near (m : Mk) {n : Nat} (hn : m.near ≤ n) (f : Nat) (a b : P) (path : List Nat) {c : Co} (e : c.near.length ≤ n) : (iffy xor m f a b path c).1.near.length ≤ n := by
  show (if _ then _ else _ : List (Int × Int) × List (Int × Int)).1.length ≤ n
  split
  · exact begins_near m _ hn _ _ _ e
  · exact e
theorem sem_near (m : Mk) {n : Nat} (hn : m.near ≤ n) : ∀ (p : P) (A : List Nat) (k : Nat) (c : Co), c.near.length ≤ n → (sem xor bits m p A k c).1.near.length ≤ n
  | .nil, _, _, _, e => e
  | .lf x r, A, k, c, e => sem_near m hn r A (k + 1) _ (leaf_near m hn x _ e)
  | .ite f a b r, A, k, c, e => by
    refine sem_near m hn r A (k + 1) _ ?_
    show (if _ then _ else _ : Co × List Ev).1.near.length ≤ n
    split
    · exact sem_near m hn a _ _ _ (iffy_near m hn f a b _ e)
    · exact sem_near m hn b _ _ _ (iffy_near m hn f a b _ e)
  | .rnd j a r, A, k, c, e => by
    refine sem_near m hn r A (k + 1) _ ?_
    refine (rep_all (Pr := fun c => c.near.length ≤ n) (Pe := fun _ => True) ?_ j c e).1
    exact fun c1 g => ⟨sem_near m hn a _ _ c1 g, fun _ _ => trivial⟩
  | .trn f a r, A, k, c, e => by
    refine sem_near m hn r A (k + 1) _ ?_
    refine (rep_all (Pr := fun c => c.near.length ≤ n) (Pe := fun _ => True) ?_ _ c e).1
    exact fun c1 g => ⟨sem_near m hn a _ _ c1 g, fun _ _ => trivial⟩
/-! ### a state that may go on -/
structure MkOk (m : Mk) : Prop where
  near : m.near ≤ 4
  far : m.far ≤ 9
  wrong : m.wrong ≤ 9
  width : m.width ≤ 4
  long : m.long ≤ 1
structure StOk (s : S) : Prop where
  good : Good s.boxes s.tabs
  near : s.near.length ≤ 4
  tch : s.touches.length ≤ 4 * s.met.length
  said : s.said.length ≤ s.met.length
theorem tchs_few {m : Mk} (M : MkOk m) {e : Ev} (h : EvOk m e) : (tchs e).length ≤ 4 := by
  unfold tchs
  rw [List.length_append]
  have hf := h.few
  have hw := M.width
  cases e1 : e.begun with
  | nil =>
    cases e.own with
    | none => exact Nat.zero_le _
    | some _ => show 0 + 1 ≤ 4; decide
  | cons b l =>
    have hb := (h.bg (by rw [e1]; exact fun q => nomatch q)).1
    have hi : e.hd.isTab = none := by
      cases e2 : e.hd with
      | lf x => rw [e2] at hb; cases hb
      | _ => rfl
    have ho := h.own
    rw [hi] at ho
    have ho2 : e.own = none := by
      cases e3 : e.own with
      | none => rfl
      | some v => rw [e3] at ho; cases ho
    rw [ho2, ← e1]
    show e.begun.length + 0 ≤ 4
    omega
theorem touches_few {m : Mk} (M : MkOk m) : ∀ (l : List Ev) (b : Int), (∀ e ∈ l, EvOk m e) → (touchesOf b l).length ≤ 4 * l.length
  | [], _, _ => Nat.le_refl _
  | e :: l, b, h => by
    show ((tchs e).map _ ++ touchesOf (b + e.dur) l).length ≤ 4 * (l.length + 1)
    rw [List.length_append, List.length_map]
    have h1 := tchs_few M (h e List.mem_cons_self)
    have h2 := touches_few M l (b + e.dur) fun e m => h e (List.mem_cons_of_mem _ m)
    omega
theorem told_few : ∀ l : List Ev, (toldOf l).length ≤ l.length
  | [] => Nat.le_refl _
  | e :: l => by
    show (e.told.toList ++ toldOf l).length ≤ l.length + 1
    rw [List.length_append]
    have h2 := told_few l
    cases e.told with
    | none => show 0 + _ ≤ _; omega
    | some _ => show 1 + _ ≤ _; omega
theorem StOk.add {s : S} {q : Co × List Ev} {m : Mk} (h : StOk s) (M : MkOk m) (g : Good q.1.boxes q.1.tabs) (n : q.1.near.length ≤ 4) (ev : ∀ e ∈ q.2, EvOk m e) : StOk (s.add q) where
  good := g
  near := n
  tch := by
    rw [S.add_met]
    show (s.touches ++ touchesOf s.beats q.2).length ≤ _
    rw [List.length_append]
    have h1 := touches_few M q.2 s.beats ev
    have h2 := h.tch
    omega
  said := by
    rw [S.add_met]
    show (s.said ++ toldOf q.2).length ≤ _
    rw [List.length_append]
    have h1 := told_few q.2
    have h2 := h.said
    omega
theorem StOk.sem (O : Ops xor bits) {s : S} {m : Mk} (h : StOk s) (M : MkOk m) {p : P} {d : Nat} (hp : p.ok d) (A : List Nat) (k : Nat) : StOk (s.add (sem xor bits m p A k s.co)) :=
  h.add M (sem_good O m p hp A k s.co h.good) (sem_near m M.near p A k s.co h.near) fun e he => (sem_ok O m M.long p hp A k s.co h.good e he).1
theorem StOk.hd (O : Ops xor bits) {s : S} {m : Mk} (h : StOk s) (M : MkOk m) {x : Hd} {d : Nat} (hp : x.ok d) (h1 : 1 ≤ d) (A : List Nat) (k : Nat) : StOk (s.add (hdSem xor bits m x (A ++ [k]) s.co)) := by
  rw [hdSem_toP]
  exact h.sem O M (toP_ok hp h1) A k
theorem StOk.tick {s : S} (h : StOk s) {m : Mk} (M : MkOk m) (x : Hd) (path : List Nat) (hx : EvOk m (tick x path)) : StOk (s.add (s.co, [LB.tick x path])) :=
  h.add M h.good h.near fun e he => by rw [List.mem_singleton.mp he]; exact hx
theorem tick_rnd (m : Mk) (n : Nat) (a : P) (path : List Nat) : EvOk m (tick (.rnd n a) path) := ⟨rfl, by show (1 : Int) ≤ 1; decide, rfl, fun h => (h rfl).elim, Nat.zero_le _, fun t q => (nomatch q)⟩
theorem tick_trn (m : Mk) (n : Nat) (a : P) (path : List Nat) : EvOk m (tick (.trn n a) path) := ⟨rfl, by show (1 : Int) ≤ 1; decide, rfl, fun h => (h rfl).elim, Nat.zero_le _, fun t q => (nomatch q)⟩
end
end LB
namespace LB
/-- (beat, table) of the tables' own touches -/
def ownE (b : Int) (e : Ev) : List (Int × Int) := match e.own with
  | some t => [(b, t.1)]
  | none => []
def ownsOf : Int → List Ev → List (Int × Int)
  | _, [] => []
  | b, e :: r => ownE b e ++ ownsOf (b + e.dur) r
def waysOf : Int → List Ev → List Int
  | _, [] => []
  | b, e :: r => (if e.hd.isIf = true then [b] else []) ++ waysOf (b + e.dur) r
theorem ownsOf_app : ∀ (b : Int) (l r : List Ev), ownsOf b (l ++ r) = ownsOf b l ++ ownsOf (b + dursOf l) r
  | b, [], r => by simp [ownsOf, dursOf]
  | b, e :: l, r => by
    show ownE b e ++ ownsOf (b + e.dur) (l ++ r) = (ownE b e ++ ownsOf (b + e.dur) l) ++ ownsOf (b + (e.dur + dursOf l)) r
    rw [ownsOf_app, List.append_assoc, Int.add_assoc]
/-- the law's look at the touches -/
def chk (ways : List Int) (w0 : Bool) : List (Int × Int × Int) → List (Int × Int) → Option (List (Int × Int))
  | [], L => some L
  | x :: r, L => if L.head? = some (x.1, x.2.1) then chk ways w0 r L.tail else if x.1 ∈ ways ∧ w0 = false then chk ways w0 r L else none
theorem owns_later : ∀ (b : Int) (l : List Ev), (∀ e ∈ l, 1 ≤ e.dur) → ∀ x ∈ ownsOf b l, b ≤ x.1
  | _, [], _, _, m => nomatch m
  | b, e :: l, h, x, m => by
    rcases List.mem_append.mp (show x ∈ ownE b e ++ ownsOf (b + e.dur) l from m) with m | m
    · unfold ownE at m
      cases q : e.own with
      | none => rw [q] at m; cases m
      | some t => rw [q] at m; rw [List.mem_singleton.mp m]; exact Int.le_refl b
    · have h1 := h e List.mem_cons_self
      have h2 := owns_later (b + e.dur) l (fun y hy => h y (List.mem_cons_of_mem _ hy)) x m
      omega
theorem chk_begun (ways : List Int) (b : Int) (hb : b ∈ ways) : ∀ (ts : List (Int × Int)) (r : List (Int × Int × Int)) (L : List (Int × Int)), (∀ x ∈ L, b < x.1) → chk ways false (ts.map (fun t => (b, t.1, t.2)) ++ r) L = chk ways false r L
  | [], r, L, _ => rfl
  | t :: ts, r, L, h => by
    show (if L.head? = some (b, t.1) then _ else if b ∈ ways ∧ false = false then _ else none) = _
    have h1 : ¬ L.head? = some (b, t.1) := fun e => by
      have hm : (b, t.1) ∈ L := List.mem_of_mem_head? e
      have := h _ hm
      exact Int.lt_irrefl b this
    rw [if_neg h1, if_pos ⟨hb, rfl⟩]
    exact chk_begun ways b hb ts r L h
theorem chk_all {m : Mk} (ways : List Int) : ∀ (b : Int) (l : List Ev), (∀ e ∈ l, EvOk m e) → (∀ x ∈ waysOf b l, x ∈ ways) → chk ways (decide (m.width = 0)) (touchesOf b l) (ownsOf b l) = some []
  | _, [], _, _ => rfl
  | b, e :: l, h, hw => by
    have he := h e List.mem_cons_self
    have hl : ∀ y ∈ l, EvOk m y := fun y hy => h y (List.mem_cons_of_mem _ hy)
    have hw2 : ∀ x ∈ waysOf (b + e.dur) l, x ∈ ways := fun x hx => hw x (List.mem_append_right _ hx)
    have ih := chk_all ways (b + e.dur) l hl hw2
    have hlat : ∀ x ∈ ownsOf (b + e.dur) l, b < x.1 := fun x hx => by
      have := owns_later (b + e.dur) l (fun y hy => (hl y hy).one) x hx
      have h1 := he.one
      omega
    show chk ways _ ((e.begun ++ e.own.toList).map _ ++ touchesOf (b + e.dur) l) (ownE b e ++ ownsOf (b + e.dur) l) = some []
    cases hown : e.own with
    | some t =>
      have hbg : e.begun = [] := by
        cases q : e.begun with
        | nil => rfl
        | cons x y =>
          have hi := (he.bg (by rw [q]; exact fun q => nomatch q)).1
          have ho := he.own
          rw [hown] at ho
          cases q2 : e.hd with
          | lf x => rw [q2] at hi; cases hi
          | ite c p q => rw [q2] at ho; cases ho
          | rnd c p => rw [q2] at ho; cases ho
          | trn c p => rw [q2] at ho; cases ho
      unfold ownE
      rw [hbg, hown]
      show (if ((b, t.1) :: ownsOf (b + e.dur) l).head? = some (b, t.1) then chk ways _ (touchesOf (b + e.dur) l) (ownsOf (b + e.dur) l) else _) = some []
      rw [if_pos (by rfl)]
      exact ih
    | none =>
      unfold ownE
      rw [hown]
      show chk ways _ ((e.begun ++ []).map _ ++ touchesOf (b + e.dur) l) (ownsOf (b + e.dur) l) = some []
      rw [List.append_nil]
      by_cases hbg : e.begun = []
      · rw [hbg]
        exact ih
      · obtain ⟨hi, hwd⟩ := he.bg hbg
        have hbw : b ∈ ways := hw b (List.mem_append_left _ (by rw [if_pos hi]; exact List.mem_singleton.mpr rfl))
        rw [decide_eq_false hwd] at ih ⊢
        rw [chk_begun ways b hbw e.begun (touchesOf (b + e.dur) l) _ hlat]
        exact ih
theorem rooms_all {m : Mk} : ∀ (b : Int) (l : List Ev), (∀ e ∈ l, EvOk m e) → ∀ t ∈ touchesOf b l, 0 ≤ t.2.2 ∧ t.2.2 ≤ 3
  | _, [], _, _, q => nomatch q
  | b, e :: l, h, t, q => by
    rcases List.mem_append.mp (show t ∈ (tchs e).map _ ++ touchesOf (b + e.dur) l from q) with q | q
    · obtain ⟨x, hx, rfl⟩ := List.mem_map.mp q
      exact (h e List.mem_cons_self).rooms x hx
    · exact rooms_all (b + e.dur) l (fun y hy => h y (List.mem_cons_of_mem _ hy)) t q
/-- the i-th event, its beat and the next -/
theorem met_at : ∀ (b : Int) (l : List Ev) (i : Nat) (e : Ev), l[i]? = some e → (metOf b l)[i]? = some (e.path, b + dursOf (l.take i))
  | _, [], _, _, h => by simp at h
  | b, x :: l, 0, e, h => by
    have h : x = e := by simpa using h
    subst h
    show some (x.path, b) = some (x.path, b + 0)
    rw [Int.add_zero]
  | b, x :: l, i + 1, e, h => by
    have h : l[i]? = some e := by simpa using h
    show (metOf (b + x.dur) l)[i]? = some (e.path, b + (x.dur + dursOf (l.take i)))
    rw [met_at (b + x.dur) l i e h, Int.add_assoc]
theorem durs_snoc (l : List Ev) (i : Nat) (e : Ev) (h : l[i]? = some e) : dursOf (l.take (i + 1)) = dursOf (l.take i) + e.dur := by
  rw [List.take_succ, h, dursOf_app]
  show _ + (e.dur + 0) = _
  rw [Int.add_zero]
theorem owns_snoc (b : Int) (l : List Ev) (i : Nat) (e : Ev) (h : l[i]? = some e) : ownsOf b (l.take (i + 1)) = ownsOf b (l.take i) ++ ownE (b + dursOf (l.take i)) e := by
  rw [List.take_succ, h, ownsOf_app]
  show _ ++ (ownE _ e ++ []) = _
  rw [List.append_nil]
theorem sem_some {xor : Int → Int → Int} {bits : Int → Int} (m : Mk) : ∀ (p : P) {d : Nat} (_ : p.ok d) (A : List Nat) (k : Nat) (c : Co), p ≠ .nil → (sem xor bits m p A k c).2 ≠ []
  | .nil, _, _, _, _, _, h => (h rfl).elim
  | .lf x r, _, _, A, k, c, _ => fun e => by cases e
  | .ite e a b r, _, _, A, k, c, _ => fun q => by
    have q : (_ :: _) ++ _ = ([] : List Ev) := q
    cases q
  | .rnd n a r, _, ⟨_, h1, _, _, _⟩, A, k, c, _ => fun q => by
    match n, h1 with
    | n + 1, _ =>
      have q : ((_ :: _) ++ _) ++ _ = ([] : List Ev) := q
      cases q
  | .trn e a r, _, _, A, k, c, _ => fun q => by
    have q : (_ ++ [_]) ++ _ = ([] : List Ev) := q
    simp at q
theorem durs_nonneg {m : Mk} : ∀ l : List Ev, (∀ e ∈ l, EvOk m e) → 0 ≤ dursOf l
  | [], _ => Int.le_refl 0
  | e :: l, h => by
    have h1 := (h e List.mem_cons_self).one
    have h2 := durs_nonneg l fun y hy => h y (List.mem_cons_of_mem _ hy)
    show 0 ≤ e.dur + dursOf l
    omega
theorem tch_nonneg {m : Mk} : ∀ (b : Int) (l : List Ev), 0 ≤ b → (∀ e ∈ l, EvOk m e) → ∀ t ∈ touchesOf b l, 0 ≤ t.1
  | _, [], _, _, _, q => nomatch q
  | b, e :: l, hb, h, t, q => by
    rcases List.mem_append.mp (show t ∈ (tchs e).map _ ++ touchesOf (b + e.dur) l from q) with q | q
    · obtain ⟨x, hx, rfl⟩ := List.mem_map.mp q
      exact hb
    · have h1 := (h e List.mem_cons_self).one
      exact tch_nonneg (b + e.dur) l (by omega) (fun y hy => h y (List.mem_cons_of_mem _ hy)) t q
end LB
/-! Data over the abstract heap: a logic of what evaluates to which data. -/
namespace LW
open PySem L2 Evl

/-! ### data without lists -/
mutual
def tdat : PyData → Bool
  | .list _ => false
  | .dict _ => false
  | .tuple ds => tdats ds
  | .none => true
  | .bool _ => true
  | .int _ => true
  | .str _ => true
def tdats : List PyData → Bool
  | [] => true
  | d :: ds => tdat d && tdats ds
end
theorem tdats_all : ∀ {ds : List PyData}, (∀ d ∈ ds, tdat d = true) → tdats ds = true
  | [], _ => rfl
  | d :: ds, h => by
    unfold tdats
    rw [h d List.mem_cons_self, tdats_all fun e he => h e (List.mem_cons_of_mem _ he)]
    rfl
theorem tdats_mem : ∀ {ds : List PyData}, tdats ds = true → ∀ d ∈ ds, tdat d = true
  | [], _, _, m => nomatch m
  | d :: ds, h, e, m => by
    unfold tdats at h
    obtain ⟨h1, h2⟩ := Bool.and_eq_true_iff.mp h
    rcases List.mem_cons.mp m with rfl | m
    · exact h1
    · exact tdats_mem h2 e m
theorem tdat_tup {ds : List PyData} (h : tdats ds = true) : tdat (.tuple ds) = true := by unfold tdat; exact h

section
variable {K : PySem.W.Frag} {H H' H'' : Hp}
/-- the tuples stand -/
def Tx (H H' : Hp) : Prop := ∀ b xs, Rd H b (.tup xs) → Rd H' b (.tup xs)
theorem Tx.refl (H : Hp) : Tx H H := fun _ _ h => h
theorem Tx.trans (a : Tx H H') (b : Tx H' H'') : Tx H H'' := fun x xs h => b x xs (a x xs h)
theorem Tx.of (e : Ex H H') : Tx H H' := fun _ _ h => ex_rd e h
theorem Tx.seq (t : Tx H H') {a : Addr} {xs : List V} (h : SqT K H a xs) : SqT K H' a xs := by
  rcases h with h | h
  · exact .inl (t a xs h)
  · exact .inr h
/-- what is no tuple may change -/
def NoT (o : Option HO) : Prop := ∀ xs, o ≠ some (.tup xs) ∧ ∀ u, o ≠ some (.frz u (.tup xs))
theorem Tx.upd (t : Tx H H') {a : Addr} {o : HO} (n : NoT (H a)) : Tx H (upd H' a o) := fun b xs h => by
  have hb : b ≠ a := fun e => by
    subst e
    rcases h with h | ⟨u, h⟩
    · exact (n xs).1 h
    · exact (n xs).2 u h
  rcases t b xs h with q | ⟨u, q⟩
  · exact .inl (by rw [upd_ne hb]; exact q)
  · exact .inr ⟨u, by rw [upd_ne hb]; exact q⟩
theorem NoT.lst {xs : List V} {o : Option HO} (h : o = some (.lst xs)) : NoT o := fun _ => ⟨(fun e => by rw [h] at e; cases e), (fun _ e => by rw [h] at e; cases e)⟩
theorem NoT.ins {C dx : Addr} {fs : List (Str × V)} {o : Option HO} (h : o = some (.ins C dx fs)) : NoT o := fun _ => ⟨(fun e => by rw [h] at e; cases e), (fun _ e => by rw [h] at e; cases e)⟩
theorem NoT.dT {kvs : List (List Key × V)} {o : Option HO} (h : o = some (.dT kvs)) : NoT o := fun _ => ⟨(fun e => by rw [h] at e; cases e), (fun _ e => by rw [h] at e; cases e)⟩
theorem NoT.none {o : Option HO} (h : o = Option.none) : NoT o := fun _ => ⟨(fun e => by rw [h] at e; cases e), (fun _ e => by rw [h] at e; cases e)⟩

mutual
theorem dp_ex (e : Ex H H') : ∀ (d : PyData) (v : V), Dp K H v d → Dp K H' v d
  | .none, _, h => by cases h; exact .non
  | .bool b, _, h => by cases h; exact .bl b
  | .int i, _, h => by cases h; exact .int i
  | .str x, _, h => by cases h; exact .str x
  | .list ds, _, h => by
    cases h with
    | lst hs ha => exact .lst (ex_l e hs) (dps_ex e ds _ ha)
  | .tuple ds, _, h => by
    cases h with
    | tup hs ha => exact .tup (ex_t e hs) (dps_ex e ds _ ha)
  | .dict _, _, h => by cases h
theorem dps_ex (e : Ex H H') : ∀ (ds : List PyData) (vs : List V), DpAll K H vs ds → DpAll K H' vs ds
  | [], _, h => by cases h; exact .nil
  | d :: ds, _, h => by
    cases h with
    | cons h1 h2 => exact .cons (dp_ex e d _ h1) (dps_ex e ds _ h2)
end
mutual
theorem dp_tx (t : Tx H H') : ∀ (d : PyData) (v : V), tdat d = true → Dp K H v d → Dp K H' v d
  | .none, _, _, h => by cases h; exact .non
  | .bool b, _, _, h => by cases h; exact .bl b
  | .int i, _, _, h => by cases h; exact .int i
  | .str x, _, _, h => by cases h; exact .str x
  | .list ds, _, z, h => by unfold tdat at z; cases z
  | .tuple ds, _, z, h => by
    cases h with
    | tup hs ha => exact .tup (t.seq hs) (dps_tx t ds _ (by unfold tdat at z; exact z) ha)
  | .dict _, _, _, h => by cases h
theorem dps_tx (t : Tx H H') : ∀ (ds : List PyData) (vs : List V), tdats ds = true → DpAll K H vs ds → DpAll K H' vs ds
  | [], _, _, h => by cases h; exact .nil
  | d :: ds, _, z, h => by
    cases h with
    | cons h1 h2 =>
      unfold tdats at z
      obtain ⟨z1, z2⟩ := Bool.and_eq_true_iff.mp z
      exact .cons (dp_tx t d _ z1 h1) (dps_tx t ds _ z2 h2)
end
theorem _root_.L2.Dp.ex {v : V} {d : PyData} (h : Dp K H v d) (e : Ex H H') : Dp K H' v d := dp_ex e d v h
theorem _root_.L2.Dp.tx {v : V} {d : PyData} (h : Dp K H v d) (t : Tx H H') (z : tdat d = true) : Dp K H' v d := dp_tx t d v z h
theorem _root_.L2.DpAll.ex {vs : List V} {ds : List PyData} (h : DpAll K H vs ds) (e : Ex H H') : DpAll K H' vs ds := dps_ex e ds vs h
theorem _root_.L2.DpAll.tx {vs : List V} {ds : List PyData} (h : DpAll K H vs ds) (t : Tx H H') (z : tdats ds = true) : DpAll K H' vs ds := dps_tx t ds vs z h

theorem dp_int {v : V} {i : Int} (h : Dp K H v (.int i)) : v = .int i := by cases h; rfl
theorem dp_str {v : V} {x : Str} (h : Dp K H v (.str x)) : v = .str x := by cases h; rfl
theorem dp_bl {v : V} {b : Bool} (h : Dp K H v (.bool b)) : v = .bl b := by cases h; rfl
theorem dp_non {v : V} (h : Dp K H v .none) : v = .non := by cases h; rfl
theorem dp_tup {v : V} {ds : List PyData} (h : Dp K H v (.tuple ds)) : ∃ a xs, v = .ref a ∧ SqT K H a xs ∧ DpAll K H xs ds := by
  cases h with
  | tup hs ha => exact ⟨_, _, rfl, hs, ha⟩
theorem dp_lst {v : V} {ds : List PyData} (h : Dp K H v (.list ds)) : ∃ a xs, v = .ref a ∧ SqL K H a xs ∧ DpAll K H xs ds := by
  cases h with
  | lst hs ha => exact ⟨_, _, rfl, hs, ha⟩
theorem dps_len : ∀ {vs : List V} {ds : List PyData}, DpAll K H vs ds → vs.length = ds.length
  | _, [], h => by cases h; rfl
  | _, d :: ds, h => by
    cases h with
    | cons h1 h2 => exact congrArg (· + 1) (dps_len h2)
theorem dps_get : ∀ {vs : List V} {ds : List PyData} {i : Nat} {d : PyData}, DpAll K H vs ds → ds[i]? = some d → ∃ v, vs[i]? = some v ∧ Dp K H v d
  | _, [], i, d, h, e => by simp at e
  | _, c :: ds, 0, d, h, e => by
    cases h with
    | cons h1 h2 =>
      have e : c = d := by simpa using e
      subst e
      exact ⟨_, rfl, h1⟩
  | _, c :: ds, i + 1, d, h, e => by
    cases h with
    | cons h1 h2 =>
      obtain ⟨v, q1, q2⟩ := dps_get (i := i) (d := d) h2 (by simpa using e)
      exact ⟨v, by simpa using q1, q2⟩
theorem dps_at {vs : List V} {ds : List PyData} {i : Nat} {v : V} (h : DpAll K H vs ds) (e : vs[i]? = some v) : ∃ d, ds[i]? = some d ∧ Dp K H v d := by
  have hi : i < ds.length := by
    rw [← dps_len h]
    exact (List.getElem?_eq_some_iff.mp e).1
  obtain ⟨w, q1, q2⟩ := dps_get h (List.getElem?_eq_getElem hi)
  rw [e] at q1
  cases q1
  exact ⟨_, List.getElem?_eq_getElem hi, q2⟩
theorem dps_app : ∀ {vs : List V} {ds : List PyData} {ws : List V} {es : List PyData}, DpAll K H vs ds → DpAll K H ws es → DpAll K H (vs ++ ws) (ds ++ es)
  | _, [], _, _, h, g => by cases h; exact g
  | _, d :: ds, _, _, h, g => by
    cases h with
    | cons h1 h2 => exact .cons h1 (dps_app h2 g)
theorem dps_one {v : V} {d : PyData} (h : Dp K H v d) : DpAll K H [v] [d] := .cons h .nil
theorem dps_take : ∀ {vs : List V} {ds : List PyData} (n : Nat), DpAll K H vs ds → DpAll K H (vs.take n) (ds.take n)
  | _, _, 0, _ => .nil
  | _, [], n + 1, h => by cases h; exact .nil
  | _, d :: ds, n + 1, h => by
    cases h with
    | cons h1 h2 => exact .cons h1 (dps_take n h2)
theorem dps_drop : ∀ {vs : List V} {ds : List PyData} (n : Nat), DpAll K H vs ds → DpAll K H (vs.drop n) (ds.drop n)
  | _, _, 0, h => h
  | _, [], n + 1, h => by cases h; exact .nil
  | _, d :: ds, n + 1, h => by
    cases h with
    | cons h1 h2 => exact dps_drop n h2
theorem dps_rev : ∀ {vs : List V} {ds : List PyData}, DpAll K H vs ds → DpAll K H vs.reverse ds.reverse
  | _, [], h => by cases h; exact .nil
  | _, d :: ds, h => by
    cases h with
    | cons h1 h2 =>
      rw [List.reverse_cons, List.reverse_cons]
      exact dps_app (dps_rev h2) (dps_one h1)
theorem dps_ints : ∀ {vs : List V} {ns : List Int}, DpAll K H vs (ns.map PyData.int) → vs = ns.map V.int
  | _, [], h => by cases h; rfl
  | _, n :: ns, h => by
    cases h with
    | cons h1 h2 => rw [dp_int h1, dps_ints h2]; rfl
theorem dps_bools : ∀ {vs : List V} {bs : List Bool}, DpAll K H vs (bs.map PyData.bool) → vs = bs.map V.bl
  | _, [], h => by cases h; rfl
  | _, n :: ns, h => by
    cases h with
    | cons h1 h2 => rw [dp_bl h1, dps_bools h2]; rfl
theorem ints_dps : ∀ (ns : List Int), DpAll K H (ns.map V.int) (ns.map PyData.int)
  | [] => .nil
  | n :: ns => .cons (.int n) (ints_dps ns)
theorem bools_dps : ∀ (ns : List Bool), DpAll K H (ns.map V.bl) (ns.map PyData.bool)
  | [] => .nil
  | n :: ns => .cons (.bl n) (bools_dps ns)
theorem tdats_ints : ∀ ns : List Int, tdats (ns.map PyData.int) = true
  | [] => rfl
  | n :: ns => by
    show tdats (PyData.int n :: ns.map PyData.int) = true
    unfold tdats
    rw [tdats_ints ns]
    unfold tdat
    rfl
end

/-! ### what evaluates to which data -/
section
variable (K : PySem.W.Frag)
def ED (te : TE) (σ : L2.St) (H : Hp) (d : PyData) : Prop := ∀ H1, Ex H H1 → ∀ Q : VK, (∀ v H2, Ex H1 H2 → Dp K H2 v d → Q v H2) → te σ H1 Q
def EDA (ta : TA) (σ : L2.St) (H : Hp) (ds : List PyData) : Prop := ∀ H1, Ex H H1 → ∀ Q : List V → Hp → Prop, (∀ vs H2, Ex H1 H2 → DpAll K H2 vs ds → Q vs H2) → ta σ H1 Q
/-- a new list -/
def EDL (te : TE) (σ : L2.St) (H : Hp) (ds : List PyData) : Prop := ∀ H1, Ex H H1 → ∀ Q : VK, (∀ p xs H2, H1 p = none → Ex H1 H2 → H2 p = some (.lst xs) → DpAll K H2 xs ds → Q (.ref p) H2) → te σ H1 Q
/-- values to data -/
def RD (r : R2) (dx dy : PyData) (H : Hp) (d : PyData) : Prop := ∀ H1, Ex H H1 → ∀ x y, Dp K H1 x dx → Dp K H1 y dy → ∀ Q : VK, (∀ v H2, Ex H1 H2 → Dp K H2 v d → Q v H2) → r x y H1 Q
end
section
variable {K : PySem.W.Frag} {σ : L2.St} {H H' : Hp} {ta tb te tc : TE} {t u : TT} {v : V} {d dx dy : PyData} {r : R2}
theorem ED.mono (h : ED K te σ H d) (e : Ex H H') : ED K te σ H' d := fun H1 a Q q => h H1 (e.trans a) Q q
theorem EDL.mono {ds : List PyData} (h : EDL K te σ H ds) (e : Ex H H') : EDL K te σ H' ds := fun H1 a Q q => h H1 (e.trans a) Q q
theorem ed_is {d' : PyData} (h : ED K te σ H d) (e : d = d') : ED K te σ H d' := by rw [← e]; exact h
theorem ed_ev (h : Ev te σ H v) (hd : Dp K H v d) : ED K te σ H d := fun H1 e Q q => h H1 e Q fun H2 e2 => q v H2 e2 (hd.ex (e.trans e2))
theorem ed_var {i : Nat} (h : σ[i]? = some (some v)) (hd : Dp K H v d) : ED K (tVar i) σ H d := ed_ev (ev_var h) hd
theorem ed_c (hd : Dp K H v d) : ED K (tC v) σ H d := ed_ev ev_c hd
theorem ed_int {i : Int} : ED K (tC (.int i)) σ H (.int i) := ed_c (.int i)
theorem ed_str {x : Str} : ED K (tC (.str x)) σ H (.str x) := ed_c (.str x)
theorem ed_bl {b : Bool} : ED K (tC (.bl b)) σ H (.bool b) := ed_c (.bl b)
theorem ed_non : ED K (tC .non) σ H .none := ed_c .non
theorem ev_edI {i : Int} (h : ED K te σ H (.int i)) : Ev te σ H (.int i) := fun H1 e Q q => h H1 e Q fun v H2 e2 hd => by rw [dp_int hd]; exact q H2 e2
theorem ev_edS {x : Str} (h : ED K te σ H (.str x)) : Ev te σ H (.str x) := fun H1 e Q q => h H1 e Q fun v H2 e2 hd => by rw [dp_str hd]; exact q H2 e2
theorem ev_edB {b : Bool} (h : ED K te σ H (.bool b)) : Ev te σ H (.bl b) := fun H1 e Q q => h H1 e Q fun v H2 e2 hd => by rw [dp_bl hd]; exact q H2 e2
theorem ev_edN (h : ED K te σ H .none) : Ev te σ H .non := fun H1 e Q q => h H1 e Q fun v H2 e2 hd => by rw [dp_non hd]; exact q H2 e2
/-- two operands -/
theorem ed_op (ha : ED K ta σ H dx) (hb : ED K tb σ H dy) (hr : RD K r dx dy H d) : ED K (tOp r ta tb) σ H d := fun H1 e Q q =>
  ha H1 e _ fun x H2 e2 hx => hb H2 (e.trans e2) _ fun y H3 e3 hy => hr H3 ((e.trans e2).trans e3) x y (hx.ex e3) hy Q fun z H4 e4 => q z H4 ((e2.trans e3).trans e4)
theorem rd_I {C : Int → Int → Prop} {g : Int → Int → Int} {i j : Int} (hc : C i j) : RD K (rI C fun i j => .int (g i j)) (.int i) (.int j) H (.int (g i j)) := fun H1 _ x y hx hy Q q => ⟨i, j, dp_int hx, dp_int hy, hc, q _ H1 (Ex.refl H1) (.int _)⟩
theorem rd_I0 {g : Int → Int → Int} {i j : Int} : RD K (rI0 fun i j => .int (g i j)) (.int i) (.int j) H (.int (g i j)) := fun H1 _ x y hx hy Q q => ⟨i, j, dp_int hx, dp_int hy, q _ H1 (Ex.refl H1) (.int _)⟩
theorem rd_B0 {g : Int → Int → Bool} {i j : Int} : RD K (rI0 fun i j => .bl (g i j)) (.int i) (.int j) H (.bool (g i j)) := fun H1 _ x y hx hy Q q => ⟨i, j, dp_int hx, dp_int hy, q _ H1 (Ex.refl H1) (.bl _)⟩
theorem ed_add {i j : Int} (ha : ED K ta σ H (.int i)) (hb : ED K tb σ H (.int j)) : ED K (tOp (rI0 fun i j => .int (i + j)) ta tb) σ H (.int (i + j)) := ed_op ha hb rd_I0
theorem ed_sub {i j : Int} (ha : ED K ta σ H (.int i)) (hb : ED K tb σ H (.int j)) : ED K (tOp (rI0 fun i j => .int (i - j)) ta tb) σ H (.int (i - j)) := ed_op ha hb rd_I0
theorem ed_mul {i j : Int} (ha : ED K ta σ H (.int i)) (hb : ED K tb σ H (.int j)) (hc : CMul i j) : ED K (tOp (rI CMul fun i j => .int (i * j)) ta tb) σ H (.int (i * j)) := ed_op ha hb (rd_I hc)
theorem ed_fdiv {i j : Int} (ha : ED K ta σ H (.int i)) (hb : ED K tb σ H (.int j)) (hc : CDiv i j) : ED K (tOp (rI CDiv fun i j => .int (i / j)) ta tb) σ H (.int (i / j)) := ed_op ha hb (rd_I hc)
theorem ed_mod {i j : Int} (ha : ED K ta σ H (.int i)) (hb : ED K tb σ H (.int j)) (hc : 0 < j) : ED K (tOp (rI (fun _ j => 0 < j) fun i j => .int (i % j)) ta tb) σ H (.int (i % j)) := ed_op ha hb (rd_I (C := fun _ j => 0 < j) hc)
theorem ed_lt {i j : Int} (ha : ED K ta σ H (.int i)) (hb : ED K tb σ H (.int j)) : ED K (tOp (rI0 fun i j => .bl (decide (i < j))) ta tb) σ H (.bool (decide (i < j))) := ed_op ha hb (rd_B0 (g := fun i j => decide (i < j)))
theorem ed_le {i j : Int} (ha : ED K ta σ H (.int i)) (hb : ED K tb σ H (.int j)) : ED K (tOp (rI0 fun i j => .bl (decide (i ≤ j))) ta tb) σ H (.bool (decide (i ≤ j))) := ed_op ha hb (rd_B0 (g := fun i j => decide (i ≤ j)))
theorem ed_gt {i j : Int} (ha : ED K ta σ H (.int i)) (hb : ED K tb σ H (.int j)) : ED K (tOp (rI0 fun i j => .bl (decide (j < i))) ta tb) σ H (.bool (decide (j < i))) := ed_op ha hb (rd_B0 (g := fun i j => decide (j < i)))
theorem ed_ge {i j : Int} (ha : ED K ta σ H (.int i)) (hb : ED K tb σ H (.int j)) : ED K (tOp (rI0 fun i j => .bl (decide (j ≤ i))) ta tb) σ H (.bool (decide (j ≤ i))) := ed_op ha hb (rd_B0 (g := fun i j => decide (j ≤ i)))
/-- == of flat data -/
def flatD : PyData → Option V
  | .none => some .non
  | .bool b => some (.bl b)
  | .int i => some (.int i)
  | .str x => some (.str x)
  | _ => none
theorem dp_flat {x : V} (hx : flatD d = some x) {y : V} (h : Dp K H y d) : y = x := by
  cases d with
  | none => cases h; cases hx; rfl
  | bool b => cases h; cases hx; rfl
  | int i => cases h; cases hx; rfl
  | str x => cases h; cases hx; rfl
  | list xs => cases hx
  | tuple xs => cases hx
  | dict xs => cases hx
theorem ed_eq {x y : V} (ha : ED K ta σ H dx) (hb : ED K tb σ H dy) (hx : flatD dx = some x) (hy : flatD dy = some y) (hs : scal x y = true) : ED K (tOp rEq ta tb) σ H (.bool (decide (x = y))) :=
  ed_op ha hb fun H1 _ a b h1 h2 Q q => by
    rw [dp_flat hx h1, dp_flat hy h2]
    exact ⟨hs, q _ H1 (Ex.refl H1) (.bl _)⟩
theorem ed_ne {x y : V} (ha : ED K ta σ H dx) (hb : ED K tb σ H dy) (hx : flatD dx = some x) (hy : flatD dy = some y) (hs : scal x y = true) : ED K (tOp rNe ta tb) σ H (.bool (!decide (x = y))) :=
  ed_op ha hb fun H1 _ a b h1 h2 Q q => by
    rw [dp_flat hx h1, dp_flat hy h2]
    exact ⟨hs, q _ H1 (Ex.refl H1) (.bl _)⟩
/-- ints; texts -/
theorem ed_eqI {i j : Int} (ha : ED K ta σ H (.int i)) (hb : ED K tb σ H (.int j)) : ED K (tOp rEq ta tb) σ H (.bool (decide (i = j))) := by
  have h := ed_eq ha hb rfl rfl rfl
  rw [dec_int] at h
  rw [← Bool.beq_eq_decide_eq]
  exact h
theorem ed_neI {i j : Int} (ha : ED K ta σ H (.int i)) (hb : ED K tb σ H (.int j)) : ED K (tOp rNe ta tb) σ H (.bool (!decide (i = j))) := by
  have h := ed_ne ha hb rfl rfl rfl
  rw [dec_int] at h
  rw [← Bool.beq_eq_decide_eq]
  exact h
theorem ed_eqS {i j : Str} {b : Bool} (ha : ED K ta σ H (.str i)) (hb : ED K tb σ H (.str j)) (e : decide (i = j) = b) : ED K (tOp rEq ta tb) σ H (.bool b) := by
  have h := ed_eq ha hb rfl rfl rfl
  rw [show decide (V.str i = V.str j) = b by rw [← e, dec_str, Bool.beq_eq_decide_eq]] at h
  exact h
/-- == of any data -/
theorem ed_eqD (ha : ED K ta σ H dx) (hb : ED K tb σ H dy) (sx : SeqAt.shaped dx = true) (sy : SeqAt.shaped dy = true) : ED K (tOp (rEqD K) ta tb) σ H (.bool (PyData.eqv dx dy)) :=
  ed_op ha hb fun H1 _ a b h1 h2 Q q => ⟨dx, dy, h1, h2, sx, sy, q _ H1 (Ex.refl H1) (.bl _)⟩
theorem ed_neD (ha : ED K ta σ H dx) (hb : ED K tb σ H dy) (sx : SeqAt.shaped dx = true) (sy : SeqAt.shaped dy = true) : ED K (tOp (rNeD K) ta tb) σ H (.bool (!PyData.eqv dx dy)) :=
  ed_op ha hb fun H1 _ a b h1 h2 Q q => ⟨dx, dy, h1, h2, sx, sy, q _ H1 (Ex.refl H1) (.bl _)⟩
theorem ed_isN (ha : ED K ta σ H dx) {b : Bool} (hb : ∀ x H1, Dp K H1 x dx → decide (x = .non) = b) : ED K (tOp rIsN ta (tC .non)) σ H (.bool b) := fun H1 e Q q =>
  ha H1 e _ fun x H2 e2 hx => ⟨rfl, by rw [hb x H2 hx]; exact q _ H2 e2 (.bl _)⟩
/-- tests -/
theorem et_d {b : Bool} (h : ED K te σ H (.bool b)) : EvT (tTest te) σ H b := et_test (ev_edB h)
theorem et_dB {b : Bool} (h : ED K te σ H (.bool b)) : EvT (tB te) σ H b := et_B (ev_edB h)
theorem ed_and {a b : Bool} (h1 : ED K ta σ H (.bool a)) (h2 : a = true → ED K tb σ H (.bool b)) : ED K (tAndV ta tb) σ H (.bool (a && b)) := ed_ev (ev_andV (ev_edB h1) fun e => ev_edB (h2 e)) (.bl _)
theorem ed_or {a b : Bool} (h1 : ED K ta σ H (.bool a)) (h2 : a = false → ED K tb σ H (.bool b)) : ED K (tOrV ta tb) σ H (.bool (a || b)) := ed_ev (ev_orV (ev_edB h1) fun e => ev_edB (h2 e)) (.bl _)
theorem ed_not {a : Bool} (h1 : ED K ta σ H (.bool a)) : ED K (tNotV ta) σ H (.bool (!a)) := ed_ev (ev_notV (ev_edB h1)) (.bl _)
theorem ed_if {b : Bool} (h : EvT t σ H b) (h1 : b = true → ED K ta σ H d) (h2 : b = false → ED K tb σ H d) : ED K (tIf t ta tb) σ H d := fun H1 e Q q => h H1 e _ fun H2 e2 => by
  cases b with
  | true =>
    show ta σ H2 Q
    exact h1 rfl H2 (e.trans e2) Q fun x H3 e3 => q x H3 (e2.trans e3)
  | false =>
    show tb σ H2 Q
    exact h2 rfl H2 (e.trans e2) Q fun x H3 e3 => q x H3 (e2.trans e3)
/-- a < b < c -/
theorem ed_chain {r' : R2} {dz : PyData} {a b : Bool} (ha : ED K ta σ H dx) (hb : ED K tb σ H dy) (hc : a = true → ED K tc σ H dz) (hr : RD K r dx dy H (.bool a)) (hr' : a = true → RD K r' dy dz H (.bool b)) :
    ED K (tChain r r' ta tb tc) σ H (.bool (a && b)) := fun H1 e Q q =>
  ha H1 e _ fun x H2 e2 hx => hb H2 (e.trans e2) _ fun y H3 e3 hy => hr H3 ((e.trans e2).trans e3) x y (hx.ex e3) hy _ fun z H4 e4 hz => ⟨a, dp_bl hz, by
    cases a with
    | true =>
      show tc σ H4 fun w' H4 => r' y w' H4 Q
      exact hc rfl H4 (((e.trans e2).trans e3).trans e4) _ fun w H5 e5 hw => hr' rfl H5 ((((e.trans e2).trans e3).trans e4).trans e5) y w (hy.ex (e4.trans e5)) hw Q fun z H6 e6 hz => q z H6 ((((e2.trans e3).trans e4).trans e5).trans e6) hz
    | false => exact q _ H4 ((e2.trans e3).trans e4) (.bl _)⟩
theorem ed_chLe {i j k : Int} (ha : ED K ta σ H (.int i)) (hb : ED K tb σ H (.int j)) (hc : ED K tc σ H (.int k)) : ED K (tChain (rI0 fun i j => .bl (decide (i ≤ j))) (rI0 fun i j => .bl (decide (i ≤ j))) ta tb tc) σ H (.bool (decide (i ≤ j) && decide (j ≤ k))) :=
  ed_chain ha hb (fun _ => hc) (rd_B0 (g := fun i j => decide (i ≤ j))) fun _ => rd_B0 (g := fun i j => decide (i ≤ j))
/-- argument lists, tuples, lists -/
theorem eda_nil : EDA K tNil σ H [] := fun H1 _ _ q => q [] H1 (Ex.refl H1) .nil
theorem eda_cons {tr : TA} {ds : List PyData} (h : ED K ta σ H d) (hr : EDA K tr σ H ds) : EDA K (tCons ta tr) σ H (d :: ds) := fun H1 e _ q =>
  h H1 e _ fun x H2 e2 hx => hr H2 (e.trans e2) _ fun xs H3 e3 hxs => q (x :: xs) H3 (e2.trans e3) (.cons (hx.ex e3) hxs)
theorem ed_tup {tr : TA} {ds : List PyData} (h : EDA K tr σ H ds) (hz : ds.length ≤ 100000) : ED K (tTup tr) σ H (.tuple ds) := fun H1 e _ q =>
  h H1 e _ fun xs H2 e2 hxs => ⟨sz_of (by rw [dps_len hxs]; exact hz), fun p hp => q _ _ (e2.trans (Ex.new hp)) (.tup (st_of upd_same) (hxs.ex (Ex.new hp)))⟩
theorem edl_lst {tr : TA} {ds : List PyData} (h : EDA K tr σ H ds) (hz : ds.length ≤ 100000) : EDL K (tLst tr) σ H ds := fun H1 e _ q =>
  h H1 e _ fun xs H2 e2 hxs => ⟨sz_of (by rw [dps_len hxs]; exact hz), fun p hp => q _ _ _ (fresh_back e2 hp) (e2.trans (Ex.new hp)) upd_same (hxs.ex (Ex.new hp))⟩
theorem ed_ofL {ds : List PyData} (h : EDL K te σ H ds) : ED K te σ H (.list ds) := fun H1 e Q q => h H1 e Q fun p xs H2 _ e2 hp hxs => q _ H2 e2 (.lst (sq_of hp) hxs)
/-- items -/
theorem atI_dps {xs : List V} {ds : List PyData} {i : Int} (h : DpAll K H xs ds) (e : atI ds i = some d) : ∃ x, atI xs i = some x ∧ Dp K H x d := by
  unfold atI at e ⊢
  rw [dps_len h]
  cases q : ixN ds.length i with
  | none => rw [q] at e; cases e
  | some j =>
    rw [q] at e
    obtain ⟨x, q1, q2⟩ := dps_get h (show ds[j]? = some d from e)
    exact ⟨x, q1, q2⟩
theorem ed_ixT {ds : List PyData} {i : Int} (ha : ED K ta σ H (.tuple ds)) (hb : ED K tb σ H (.int i)) (e : atI ds i = some d) : ED K (tOp (rIxT K) ta tb) σ H d := ed_op ha hb fun H1 _ x y hx hy Q q => by
  obtain ⟨a, xs, rfl, hs, hxs⟩ := dp_tup hx
  obtain ⟨z, q1, q2⟩ := atI_dps hxs e
  exact ⟨a, xs, i, z, rfl, dp_int hy, hs, q1, q z H1 (Ex.refl H1) q2⟩
theorem ed_ixL {ds : List PyData} {i : Int} (ha : ED K ta σ H (.list ds)) (hb : ED K tb σ H (.int i)) (e : atI ds i = some d) : ED K (tOp (rIxL K) ta tb) σ H d := ed_op ha hb fun H1 _ x y hx hy Q q => by
  obtain ⟨a, xs, rfl, hs, hxs⟩ := dp_lst hx
  obtain ⟨z, q1, q2⟩ := atI_dps hxs e
  exact ⟨a, xs, i, z, rfl, dp_int hy, hs, q1, q z H1 (Ex.refl H1) q2⟩
/-- x in (a, b, ..), of flat data -/
def flats : List PyData → Option (List V)
  | [] => some []
  | d :: ds => match flatD d, flats ds with
    | some x, some xs => some (x :: xs)
    | _, _ => none
theorem dps_flats : ∀ {ds : List PyData} {xs ys : List V}, flats ds = some xs → DpAll K H ys ds → ys = xs
  | [], xs, ys, h, g => by cases h; cases g; rfl
  | d :: ds, xs, ys, h, g => by
    cases g with
    | cons g1 g2 =>
      unfold flats at h
      cases e1 : flatD d with
      | none => rw [e1] at h; cases h
      | some x =>
        cases e2 : flats ds with
        | none => rw [e1, e2] at h; cases h
        | some r =>
          rw [e1, e2] at h
          cases h
          rw [dp_flat e1 g1, dps_flats e2 g2]
theorem ed_inT {ds : List PyData} {x : V} {xs : List V} {b : Bool} (ha : ED K ta σ H dx) (hb : ED K tb σ H (.tuple ds)) (h1 : flatD dx = some x) (h2 : flats ds = some xs) (f1 : flatV x = true) (f2 : xs.all flatV = true) (hq : inV x xs = b) :
    ED K (tOp (rIn K false) ta tb) σ H (.bool b) := ed_op ha hb fun H1 _ y z hy hz Q q => by
  obtain ⟨a, ys, rfl, hs, hys⟩ := dp_tup hz
  rw [dp_flat h1 hy]
  rw [dps_flats h2 hys] at hs
  refine ⟨a, xs, rfl, .inr hs, f1, f2, ?_⟩
  show Q (.bl (inV x xs)) H1
  rw [hq]
  exact q _ H1 (Ex.refl H1) (.bl _)
theorem ed_niT {ds : List PyData} {x : V} {xs : List V} {b : Bool} (ha : ED K ta σ H dx) (hb : ED K tb σ H (.tuple ds)) (h1 : flatD dx = some x) (h2 : flats ds = some xs) (f1 : flatV x = true) (f2 : xs.all flatV = true) (hq : inV x xs = b) :
    ED K (tOp (rIn K true) ta tb) σ H (.bool (!b)) := ed_op ha hb fun H1 _ y z hy hz Q q => by
  obtain ⟨a, ys, rfl, hs, hys⟩ := dp_tup hz
  rw [dp_flat h1 hy]
  rw [dps_flats h2 hys] at hs
  refine ⟨a, xs, rfl, .inr hs, f1, f2, ?_⟩
  show Q (.bl (!inV x xs)) H1
  rw [hq]
  exact q _ H1 (Ex.refl H1) (.bl _)
/-- len -/
theorem ed_lenT {ds : List PyData} (ha : ED K ta σ H (.tuple ds)) : ED K (tCB (rLenS K) (tCons ta tNil)) σ H (.int (ds.length : Int)) := fun H1 e Q q =>
  ha H1 e _ fun x H2 e2 hx => by
    obtain ⟨a, xs, rfl, hs, hxs⟩ := dp_tup hx
    exact ⟨a, xs, rfl, .inr hs, by rw [dps_len hxs]; exact q _ H2 e2 (.int _)⟩
theorem ed_lenL {ds : List PyData} (ha : ED K ta σ H (.list ds)) : ED K (tCB (rLenS K) (tCons ta tNil)) σ H (.int (ds.length : Int)) := fun H1 e Q q =>
  ha H1 e _ fun x H2 e2 hx => by
    obtain ⟨a, xs, rfl, hs, hxs⟩ := dp_lst hx
    exact ⟨a, xs, rfl, .inl hs, by rw [dps_len hxs]; exact q _ H2 e2 (.int _)⟩
theorem ed_lenS {z : Str} (ha : ED K ta σ H (.str z)) (hz : z.length ≤ 100000) : ED K (tCB (fun xs H Q => ∃ z : Str, xs = [V.str z] ∧ z.length ≤ sizeLine ∧ Q (.int z.length) H) (tCons ta tNil)) σ H (.int (z.length : Int)) := fun H1 e Q q =>
  ha H1 e _ fun x H2 e2 hx => ⟨z, by rw [dp_str hx], sz_of hz, q _ H2 e2 (.int _)⟩
/-- + of tuples -/
theorem ed_catT {ds es : List PyData} (ha : ED K ta σ H (.tuple ds)) (hb : ED K tb σ H (.tuple es)) (hz : ds.length + es.length ≤ 100000) : ED K (tOp (rCatA K) ta tb) σ H (.tuple (ds ++ es)) := ed_op ha hb fun H1 _ x y hx hy Q q => by
  obtain ⟨a, xs, rfl, hs, hxs⟩ := dp_tup hx
  obtain ⟨b, ys, rfl, ht, hys⟩ := dp_tup hy
  refine ⟨a, b, xs, ys, rfl, rfl, hs, ht, sz_of (by rw [dps_len hxs, dps_len hys]; exact hz), fun e => ?_, fun _ e => ?_, fun _ _ p hp => ?_⟩
  · subst e
    cases hxs
    exact q _ H1 (Ex.refl H1) (.tup ht hys)
  · subst e
    cases hys
    rw [List.append_nil] at q
    exact q _ H1 (Ex.refl H1) (.tup hs hxs)
  · exact q _ _ (Ex.new hp) (.tup (st_of upd_same) ((dps_app hxs hys).ex (Ex.new hp)))
/-- slices of tuples -/
def cutD (ds : List PyData) (lo hi : Option Int) : List PyData := (ds.drop (HT.sIx ds.length 0 lo)).take (HT.sIx ds.length ds.length hi - HT.sIx ds.length 0 lo)
theorem dps_cut {xs : List V} {ds : List PyData} (h : DpAll K H xs ds) (lo hi : Option Int) : DpAll K H (cutV xs lo hi) (cutD ds lo hi) := by
  unfold cutV cutD
  rw [dps_len h]
  exact dps_take _ (dps_drop _ h)
theorem ed_slT {ds : List PyData} {tl th : TO} {lo hi : Option Int} (ha : ED K ta σ H (.tuple ds)) (h1 : EvO tl σ H lo) (h2 : EvO th σ H hi) : ED K (tSl (rSlA K) ta tl th) σ H (.tuple (cutD ds lo hi)) := fun H1 e Q q =>
  ha H1 e _ fun x H2 e2 hx => h1 H2 (e.trans e2) _ fun H3 e3 => h2 H3 ((e.trans e2).trans e3) _ fun H4 e4 => by
    obtain ⟨a, xs, rfl, hs, hxs⟩ := dp_tup (hx.ex (e3.trans e4))
    refine ⟨a, xs, rfl, hs, fun ⟨w1, w2⟩ => ?_, fun _ p hp => ?_⟩
    · have hw : cutD ds lo hi = ds := by
        unfold cutD
        rw [dps_len hxs] at w1 w2
        rw [w1, w2, List.drop_zero, Nat.sub_zero, List.take_length]
      rw [hw] at q
      exact q _ H4 ((e2.trans e3).trans e4) (.tup hs hxs)
    · exact q _ _ (((e2.trans e3).trans e4).trans (Ex.new hp)) (.tup (st_of upd_same) ((dps_cut hxs lo hi).ex (Ex.new hp)))
theorem edl_slL {ds : List PyData} {tl th : TO} {lo hi : Option Int} (ha : ED K ta σ H (.list ds)) (h1 : EvO tl σ H lo) (h2 : EvO th σ H hi) : EDL K (tSl (rSlL K) ta tl th) σ H (cutD ds lo hi) := fun H1 e Q q =>
  ha H1 e _ fun x H2 e2 hx => h1 H2 (e.trans e2) _ fun H3 e3 => h2 H3 ((e.trans e2).trans e3) _ fun H4 e4 => by
    obtain ⟨a, xs, rfl, hs, hxs⟩ := dp_lst (hx.ex (e3.trans e4))
    exact ⟨a, xs, rfl, hs, fun p hp => q _ _ _ (fresh_back ((e2.trans e3).trans e4) hp) (((e2.trans e3).trans e4).trans (Ex.new hp)) upd_same ((dps_cut hxs lo hi).ex (Ex.new hp))⟩
theorem eo_d {i : Int} (h : ED K te σ H (.int i)) : EvO (tPart te) σ H (some i) := eo_some (ev_edI h)
/-- all(..) of a new list of bools; tuple(..) of a new list -/
theorem ed_all {bs : List Bool} (h : EDL K te σ H (bs.map PyData.bool)) : ED K (tCB (rAll K) (tCons te tNil)) σ H (.bool (bs.all id)) := fun H1 e Q q =>
  h H1 e _ fun p xs H2 _ e2 hp hxs => ⟨p, bs, rfl, by rw [← dps_bools hxs]; exact sq_of hp, q _ H2 e2 (.bl _)⟩
theorem ed_tupOf {ds : List PyData} (h : EDL K te σ H ds) : ED K (tThen te (kTup K)) σ H (.tuple ds) := fun H1 e Q q =>
  h H1 e _ fun p xs H2 _ e2 hp hxs => .inl ⟨p, xs, rfl, sq_of hp, fun t ht => q _ _ (e2.trans (Ex.new ht)) (.tup (st_of upd_same) (hxs.ex (Ex.new ht)))⟩
/-- tuple(..) of a list that stands -/
theorem ed_tupOfL {ds : List PyData} (h : ED K te σ H (.list ds)) : ED K (tThen te (kTup K)) σ H (.tuple ds) := fun H1 e Q q =>
  h H1 e _ fun x H2 e2 hx => by
    obtain ⟨p, xs, rfl, hs, hxs⟩ := dp_lst hx
    exact .inl ⟨p, xs, rfl, hs, fun t ht => q _ _ (e2.trans (Ex.new ht)) (.tup (st_of upd_same) (hxs.ex (Ex.new ht)))⟩
end

/-! ### promises on data -/
/-- n arguments of data ds; R says what comes of them -/
def spD (K : PySem.W.Frag) (n : Nat) (R : List PyData → PyData → Prop) : Sp := fun vs H Q _ => vs.length = n ∧ ∃ ds d, DpAll K H vs ds ∧ R ds d ∧ ∀ v H', Ex H H' → Dp K H' v d → Q v H'
/-- .. a new list -/
def spDL (K : PySem.W.Frag) (n : Nat) (R : List PyData → List PyData → Prop) : Sp := fun vs H Q _ => vs.length = n ∧ ∃ ds es, DpAll K H vs ds ∧ R ds es ∧ ∀ p xs H', H p = none → Ex H H' → H' p = some (.lst xs) → DpAll K H' xs es → Q (.ref p) H'
section
variable {K : PySem.W.Frag} {σ : L2.St} {H H' : Hp} {ta tb te tc : TE} {t u : TT} {v : V} {d : PyData} {tr : TA} {ds : List PyData}
theorem ed_call {n : Nat} {R : List PyData → PyData → Prop} {E : XK} (h : EDA K tr σ H ds) (hr : R ds d) (hn : ds.length = n := by rfl) : ED K (tCall (spD K n R) [] E tr) σ H d := fun H1 e Q q =>
  h H1 e _ fun xs H2 e2 hxs => ⟨by rw [List.append_nil, dps_len hxs]; exact hn, ds, d, by rw [List.append_nil]; exact hxs, hr, fun v H3 e3 hv => q v H3 (e2.trans e3) hv⟩
theorem edl_call {n : Nat} {es : List PyData} {R : List PyData → List PyData → Prop} {E : XK} (h : EDA K tr σ H ds) (hr : R ds es) (hn : ds.length = n := by rfl) : EDL K (tCall (spDL K n R) [] E tr) σ H es := fun H1 e Q q =>
  h H1 e _ fun xs H2 e2 hxs => ⟨by rw [List.append_nil, dps_len hxs]; exact hn, ds, es, by rw [List.append_nil]; exact hxs, hr, fun p ys H3 hp e3 h3 hv => q p ys H3 (fresh_back e2 hp) (e2.trans e3) h3 hv⟩

/-! ### statements -/
variable {D : Ends} {tu tw tz : TS} {g : TG}
theorem sd_asg {i : Nat} (h : ED K te σ H d) (k : ∀ v H1, Ex H H1 → Dp K H1 v d → D.nx (σ.set i (some v)) H1) : tAsg te (gName i) D σ H := h H (Ex.refl H) _ fun v H1 e hv => k v H1 e hv
theorem sd_asgL {i : Nat} (h : EDL K te σ H ds) (k : ∀ p xs H1, H p = none → Ex H H1 → H1 p = some (.lst xs) → DpAll K H1 xs ds → D.nx (σ.set i (some (.ref p))) H1) : tAsg te (gName i) D σ H := h H (Ex.refl H) _ fun p xs H1 hp e h1 h2 => k p xs H1 hp e h1 h2
theorem sd_ret (h : ED K te σ H d) (k : ∀ v H1, Ex H H1 → Dp K H1 v d → D.rt v H1) : tRet te D σ H := h H (Ex.refl H) _ fun v H1 e hv => k v H1 e hv
theorem sd_retL (h : EDL K te σ H ds) (k : ∀ p xs H1, H p = none → Ex H H1 → H1 p = some (.lst xs) → DpAll K H1 xs ds → D.rt (.ref p) H1) : tRet te D σ H := h H (Ex.refl H) _ fun p xs H1 hp e h1 h2 => k p xs H1 hp e h1 h2
theorem qd_asg {i : Nat} (h : ED K te σ H d) (k : ∀ v H1, Ex H H1 → Dp K H1 v d → tz D (σ.set i (some v)) H1) : tSeq (tAsg te (gName i)) tz D σ H := sd_asg (D := { D with nx := tz D }) h k
theorem qd_asgL {i : Nat} (h : EDL K te σ H ds) (k : ∀ p xs H1, H p = none → Ex H H1 → H1 p = some (.lst xs) → DpAll K H1 xs ds → tz D (σ.set i (some (.ref p))) H1) : tSeq (tAsg te (gName i)) tz D σ H := sd_asgL (D := { D with nx := tz D }) h k
theorem qd_drop (h : ED K te σ H d) (k : ∀ H1, Ex H H1 → tz D σ H1) : tSeq (tDrop te) tz D σ H := h H (Ex.refl H) _ fun v H1 e _ => k H1 e
theorem sd_drop (h : ED K te σ H d) (k : ∀ H1, Ex H H1 → D.nx σ H1) : tDrop te D σ H := h H (Ex.refl H) _ fun v H1 e _ => k H1 e
/-- an early way out that is not taken -/
theorem q_not {b : Bool} (h : EvT t σ H b) (hb : b = false) (k : ∀ H1, Ex H H1 → tz D σ H1) : tSeq (tIfS t tu tNext) tz D σ H := q_when h (fun e => by rw [hb] at e; cases e) fun _ => k
/-- one that is taken -/
theorem q_yes {b : Bool} (h : EvT t σ H b) (hb : b = true) (k : ∀ H1, Ex H H1 → tu { D with nx := tz D } σ H1) : tSeq (tIfS t tu tw) tz D σ H := q_if h (fun _ => k) fun e => by rw [hb] at e; cases e

/-! ### what is walked -/
/-- J yields these data, as long as Kp holds -/
def JD (K : PySem.W.Frag) (Kp : Hp → Prop) (J : It) (items : List PyData) : Prop := ∀ H3, Kp H3 → J.stop items.length H3 ∧ ∀ i d, items[i]? = some d → J.go i H3 ∧ ∀ x H4, J.yld i H3 x H4 → Ex H3 H4 ∧ Dp K H4 x d
def IterD (K : PySem.W.Frag) (wi : TI) (σ : L2.St) (H : Hp) (items : List PyData) : Prop :=
  ∀ H1, Ex H H1 → ∀ R : It → Hp → Prop, (∀ J Kp H2, Ex H1 H2 → (∀ H3, Ex H2 H3 → Kp H3) → JD K Kp J items → R J H2) → wi σ H1 R
theorem jd_tup {a : Addr} {xs : List V} {Kp : Hp → Prop} (h : ∀ H3, Kp H3 → SqT K H3 a xs ∧ DpAll K H3 xs ds) : JD K Kp (Itt K a) ds := fun H3 k => by
  obtain ⟨h1, h2⟩ := h H3 k
  refine ⟨⟨xs, h1, by rw [dps_len h2]; exact Nat.le_refl _⟩, fun i d e => ?_⟩
  obtain ⟨x, q1, q2⟩ := dps_get h2 e
  refine ⟨⟨xs, x, h1, q1⟩, ?_⟩
  rintro y H4 ⟨rfl, hy⟩
  have := hy xs h1
  rw [q1] at this
  cases this
  exact ⟨Ex.refl _, q2⟩
theorem jd_lst {a : Addr} {xs : List V} {Kp : Hp → Prop} (h : ∀ H3, Kp H3 → SqL K H3 a xs ∧ DpAll K H3 xs ds) : JD K Kp (Itl K a) ds := fun H3 k => by
  obtain ⟨h1, h2⟩ := h H3 k
  refine ⟨⟨xs, h1, by rw [dps_len h2]; exact Nat.le_refl _⟩, fun i d e => ?_⟩
  obtain ⟨x, q1, q2⟩ := dps_get h2 e
  refine ⟨⟨xs, x, h1, q1⟩, ?_⟩
  rintro y H4 ⟨rfl, hy⟩
  have := hy xs h1
  rw [q1] at this
  cases this
  exact ⟨Ex.refl _, q2⟩
theorem jd_rng {n : Nat} {Kp : Hp → Prop} : JD K Kp (Itr 0 n) ((List.range n).map fun i => PyData.int (i : Nat)) := fun H3 _ => by
  refine ⟨(show n ≤ _ by simp), fun i d e => ?_⟩
  rw [List.getElem?_map] at e
  have hi : i < n := by
    rcases Nat.lt_or_ge i n with q | q
    · exact q
    · rw [List.getElem?_eq_none (by simpa using q)] at e; cases e
  rw [List.getElem?_range hi] at e
  cases e
  refine ⟨hi, ?_⟩
  rintro y H4 ⟨rfl, rfl⟩
  rw [Int.zero_add]
  exact ⟨Ex.refl _, .int _⟩
theorem it_tup (h : ED K ta σ H (.tuple ds)) : IterD K (iTup K ta) σ H ds := fun H1 e R r => h H1 e _ fun v H2 e2 hv => by
  obtain ⟨a, xs, rfl, hs, hxs⟩ := dp_tup hv
  exact ⟨a, rfl, ⟨xs, hs⟩, r _ (fun H3 => SqT K H3 a xs ∧ DpAll K H3 xs ds) H2 e2 (fun H3 e3 => ⟨ex_t e3 hs, hxs.ex e3⟩) (jd_tup fun _ k => k)⟩
theorem it_lst (h : ED K ta σ H (.list ds)) : IterD K (iList K ta) σ H ds := fun H1 e R r => h H1 e _ fun v H2 e2 hv => by
  obtain ⟨a, xs, rfl, hs, hxs⟩ := dp_lst hv
  exact ⟨a, rfl, ⟨xs, hs⟩, r _ (fun H3 => SqL K H3 a xs ∧ DpAll K H3 xs ds) H2 e2 (fun H3 e3 => ⟨ex_l e3 hs, hxs.ex e3⟩) (jd_lst fun _ k => k)⟩
theorem it_rng {n : Int} (h : EDA K tr σ H [.int n]) (hn : n ≤ 100000) (h0 : -100000 ≤ n) : IterD K (iRng1 tr) σ H ((List.range n.toNat).map fun i => PyData.int (i : Nat)) := fun H1 e R r => h H1 e _ fun vs H2 e2 hv => by
  cases hv with
  | cons h1 h2 =>
    cases h2
    exact ⟨n, by rw [dp_int h1], by omega, by omega, r _ (fun _ => True) H2 e2 (fun _ _ => trivial) jd_rng⟩

/-! ### comprehensions -/
/-- a target takes an item: its slots behind it, without a change of the heap -/
def Tk (g : TG) (v : V) (σ : L2.St) (H : Hp) (σ2 : L2.St) : Prop := ∀ Q : L2.St → Hp → Prop, Q σ2 H → g v σ H Q
theorem edl_lc {wi : TI} {tt : TT} {te : TE} {vs : List Nat} {items : List PyData} (f : PyData → Bool) (gg : PyData → PyData) (hi : IterD K wi σ H items) (hz : items.length < 100000) (hg : ∀ d ∈ items, f d = true → tdat (gg d) = true)
    (turn : ∀ (i : Nat) (d : PyData) v H1, Ex H H1 → items[i]? = some d → Dp K H1 v d → ∃ σ2, Tk g v (wipe σ vs) H1 σ2 ∧ wipe σ2 vs = wipe σ vs ∧ EvT tt σ2 H1 (f d) ∧ (f d = true → ED K te σ2 H1 (gg d))) :
    EDL K (tLc wi g tt te vs) σ H ((items.filter f).map gg) := fun H1 e Q q => hi H1 e _ fun J Kp H2 e2 kp jd Dl hD => by
  refine ⟨fun i m H3 => m = items.length - i ∧ i ≤ items.length ∧ Ex H2 H3 ∧ ∃ acc, H3 Dl = some (.lst acc) ∧ DpAll K H3 acc (((items.take i).filter f).map gg), ⟨items.length, by simp, Nat.zero_le _, Ex.new hD, [], upd_same, .nil⟩, ?_⟩
  rintro i m H3 ⟨rfl, hle, e3, acc, ha, hacc⟩
  obtain ⟨j1, j2⟩ := jd H3 (kp H3 e3)
  by_cases hlt : i < items.length
  · right
    obtain ⟨g1, g2⟩ := j2 i _ (List.getElem?_eq_getElem hlt)
    refine ⟨g1, fun H' => Ex H2 H' ∧ ∃ acc, H' Dl = some (.lst acc) ∧ DpAll K H' acc (((items.take (i + 1)).filter f).map gg), fun H' ⟨h1, h2⟩ => ⟨items.length - (i + 1), by omega, rfl, hlt, h1, h2⟩, fun x H4 hy => ?_⟩
    obtain ⟨e4, hx⟩ := g2 x H4 hy
    obtain ⟨σ2, t1, t2, t3, t4⟩ := turn i _ x H4 ((e.trans e2).trans (e3.trans e4)) (List.getElem?_eq_getElem hlt) hx
    refine t1 _ ⟨t2, t3 H4 (Ex.refl _) _ fun H5 e5 => ?_⟩
    have et : items.take (i + 1) = items.take i ++ [items[i]] := by rw [List.take_succ, List.getElem?_eq_getElem hlt]; rfl
    have eacc : acc.length ≤ i := by
      rw [dps_len hacc, List.length_map]
      exact Nat.le_trans (List.length_filter_le _ _) (by rw [List.length_take]; exact Nat.min_le_left _ _)
    cases hf : f items[i] with
    | true =>
      show te σ2 H5 _
      refine t4 hf H5 e5 _ fun y H6 e6 hy => ⟨acc, e6 _ _ (e5 _ _ (e4 _ _ ha)), sz_lt (by omega), ?_⟩
      have e36 : Ex H3 H6 := (e4.trans e5).trans e6
      refine ⟨fun b o hb => ?_, acc ++ [y], upd_same, ?_⟩
      · rw [upd_ne (ne_of_none hb hD)]
        exact e36 b o (e3 b o hb)
      · have hbase : DpAll K H6 (acc ++ [y]) (((items.take i).filter f).map gg ++ [gg items[i]]) := dps_app (hacc.ex e36) (dps_one hy)
        rw [et, List.filter_append, List.map_append, show ([items[i]].filter f) = [items[i]] by simp [hf]]
        refine hbase.tx ((Tx.refl H6).upd (.lst (e6 _ _ (e5 _ _ (e4 _ _ ha))))) (tdats_all fun d hd => ?_)
        rcases List.mem_append.mp hd with hd | hd
        · obtain ⟨d', hd', rfl⟩ := List.mem_map.mp hd
          obtain ⟨q1, q2⟩ := List.mem_filter.mp hd'
          exact hg d' (List.mem_of_mem_take q1) q2
        · rw [List.mem_singleton.mp hd]
          exact hg _ (List.getElem_mem hlt) hf
    | false =>
      show Ex H2 H5 ∧ _
      refine ⟨e3.trans (e4.trans e5), acc, e5 _ _ (e4 _ _ ha), ?_⟩
      rw [et, List.filter_append, show ([items[i]].filter f) = [] by simp [hf], List.append_nil]
      exact hacc.ex (e4.trans e5)
  · left
    have hi : i = items.length := by omega
    refine ⟨by rw [hi]; exact j1, ?_⟩
    rw [List.take_of_length_le (by omega)] at hacc
    exact q Dl acc H3 (fresh_back e2 hD) (e2.trans e3) ha hacc
end
end LW
/-! Rules that the layer lacks: enumerate of a tuple, zip of a text and a tuple, an item of a written dict, a store to an attribute as a target, repr of a bool. -/
namespace LW
open PySem PySem.Spec PyProof.Rows L2 Evl
open PySem.Sem (wp)

/-! ### enumerate of a tuple -/
theorem meets_enumT (l : Addr) (items : Array Value) :
    Meets (Builtin.«enumerate.__new__» ⟨[.type "enumerate", .ref l], []⟩) (fun _ R s => s.heap.IsTuple l items ∧
      R (.ok (.ret (.ref (s.heap.push { cls := .type "tuple_iterator", data := .fields #[.ref l, .int 0 0] }).objs.size)))
        { s with heap := (s.heap.push { cls := .type "tuple_iterator", data := .fields #[.ref l, .int 0 0] }).push { cls := .type "enumerate", data := .fields #[.none, .bool false, .ref s.heap.objs.size, rawInt 0, .none, .none] } }) :=
  .of_wp fun prog w A R s h => by
    obtain ⟨hp, g, d, tk, os⟩ := s; obtain ⟨hl, h⟩ := h
    have hsub := sub_enumerate
    have hL : Heap.IsTuple (Shared.heap ⟨hp, g, d, tk, os⟩) l items := hl
    wp_walk
    refine wpAny_stack_any fun st => wpAny_pure ?_
    split
    · rename_i c _ _ _ _ _
      cases (c == Value.type "enumerate")
      · wp_walk using wpAny_pyIter_tuple hL
        exact ⟨_, rfl, h⟩
      · wp_walk using wpAny_pyIter_tuple hL
        exact ⟨_, rfl, h⟩
    · wp_walk using wpAny_pyIter_tuple hL
      exact ⟨_, rfl, h⟩
section
variable {prog : Program} {w : World} {A : Around} {E : Value → Shared → Prop} {s : Shared}
theorem call_enumT {l : Addr} {items : Array Value} {Q : Value → Shared → Prop} (hL : s.heap.IsTuple l items)
    (h : ∀ h', IsEnum h' (s.heap.objs.size + 1) s.heap.objs.size 0 .none → h'.IsTupleIter s.heap.objs.size l 0 → h'.objs.size = s.heap.objs.size + 2 →
      (∀ b o, s.heap.get? b = some o → h'.get? b = some o) → Q (.ref (s.heap.objs.size + 1)) { s with heap := h' }) :
    wpAny (model prog w) A (call (.type "enumerate") [.ref l]) Q E s := by
  refine callType_new F.called_enumerate (by decide) (F.typeCall_enumerate_1 _) (F.newCall_enumerate_1 _) (fun obj => F.args_object_init_2 obj _) F.entry_enumerate_new
    (meets_enumT l items) ⟨hL, ?_⟩
  have hz : (s.heap.push { cls := .type "tuple_iterator", data := .fields #[.ref l, .int 0 0] }).objs.size = s.heap.objs.size + 1 := Heap.size_push ..
  show _ ∧ _
  rw [hz]
  have he : IsEnum ((s.heap.push { cls := .type "tuple_iterator", data := .fields #[.ref l, .int 0 0] }).push
      { cls := .type "enumerate", data := .fields #[.none, .bool false, .ref s.heap.objs.size, rawInt 0, .none, .none] }) (s.heap.objs.size + 1) s.heap.objs.size 0 .none := by
    have := Heap.get?_push_size (s.heap.push { cls := .type "tuple_iterator", data := .fields #[.ref l, .int 0 0] })
      (o := { cls := .type "enumerate", data := .fields #[.none, .bool false, .ref s.heap.objs.size, rawInt 0, .none, .none] }) rfl
    rw [hz] at this; exact this
  refine ⟨⟨_, he, rfl⟩, h _ he ⟨_, Heap.get?_push_of_some _ (Heap.get?_push_size _ rfl), rfl, rfl⟩ (by rw [Heap.size_push, hz]) fun b o x => Heap.get?_push_of_some _ (Heap.get?_push_of_some _ x)⟩
end
def IteT (K : PySem.W.Frag) (a : Addr) : It :=
  ⟨fun i H => ∃ (xs : List V) (x : V), SqT K H a xs ∧ xs[i]? = some x, fun i H v H' => ∃ T x, v = .ref T ∧ H T = none ∧ H' = upd H T (.tup [.int (i : Nat), x]) ∧ ∀ xs, SqT K H a xs → xs[i]? = some x,
    fun i H => ∃ xs : List V, SqT K H a xs ∧ xs.length = i⟩
theorem turn_enumT {P : Program} {w : World} {K : PySem.W.Frag} {elts : List Expr} {kk : Nat} {tpos : Pos} (a e it : Addr) (hai : a ≠ it) (hae : a ≠ e) :
    Turn P w K (.Tuple elts kk tpos) (IteT K a) [e, it] e (fun i h => (∃ old, IsEnum h e it ((i : Nat) : Int) old) ∧ h.IsTupleIter it a i ∧ e ≠ it) where
  mem := by simp
  obj := fun i h st b hb => by
    obtain ⟨⟨old, he⟩, ⟨o, ho, hc, hd⟩, _⟩ := st
    have e' : b = e ∨ b = it := by simpa using hb
    rcases e' with z | z
    · rw [z]; exact ⟨_, he, fun v q => nomatch q⟩
    · rw [z]; exact ⟨o, ho, fun v q => by rw [hd] at q; cases q⟩
  keep := fun i h h' st k => let ⟨⟨old, he⟩, hi, hne⟩ := st; ⟨⟨old, k e (by simp) _ he⟩, hi.at fun o q => k it (by simp) o q, hne⟩
  item := by
    intro X hP hw hK hc i pins s σ H E I hf st hg
    subst hP hw hK
    obtain ⟨⟨old, he⟩, hit, hne⟩ := st
    obtain ⟨xs, x, hq, hx⟩ := hg
    obtain ⟨its, rv, p, hz⟩ := I.tuple hq
    obtain ⟨u, hu, ru⟩ := rv.get hx
    have hel : e < s.heap.objs.size := Heap.lt_size he
    have hil : it < s.heap.objs.size := by obtain ⟨_, q, _⟩ := hit; exact Heap.lt_size q
    have hlt : i < its.toArray.size := by
      have := (List.getElem?_eq_some_iff.mp hu).1
      simpa using this
    have D : Draws X.prog X.w X.A.in1 it [it, a] its.toArray.size (fun i v => its.toArray[i]? = some v) (fun i h => h.IsTupleIter it a i ∧ h.IsTuple a its.toArray) := Draws.tuple (prog := X.prog) (w := X.w) (A := X.A.in1) (I.ok.hd hc) it a hai its.toArray
    refine wpAny_pyNext_enum_itemD D he ⟨hit, p⟩ hlt hne (by simp [hne, hae.symm]) fun x' h' tk hPx ho hst' hT hsz hk => ?_
    have ex : x' = u := by
      have hu' : its.toArray[i]? = some u := by simpa using hu
      rw [hu'] at hPx
      exact (Option.some.inj hPx).symm
    subst ex
    refine ⟨_, rfl, wpAny_letOwnedTupleGo_enum (s := { s with heap := h', toks := tk + 1 }) ho fun h'' he' sb => ?_⟩
    have hT2 : h''.get? s.heap.objs.size = some { cls := .type "tuple", data := .seq #[.int i tk, x'] } := (sb.2 _ (Nat.ne_of_gt hel)).trans hT
    have new : ObjOk X.prog X.w (upd H s.heap.objs.size (.tup [.int (i : Nat), x])) h'' s.heap.objs.size (.tup [.int (i : Nat), x]) :=
      ⟨by show 2 ≤ sizeLine; decide, [.int i tk, x'], .cons ⟨_, rfl⟩ (.cons ru .nil), ⟨_, hT2, rfl, _, rfl⟩⟩
    have I1 : Inv X pins σ (upd H s.heap.objs.size (.tup [.int (i : Nat), x])) { s with heap := h'', toks := tk + 1 } :=
      I.turnedNew (ch := [e, it]) (fun b ob hb q => (sb.2 b (fun z => hb (by simp [z]))).trans (hk b ob (fun z => hb (by simp [z])) (fun z => hb (by simp [z])) q)) hf (Nat.le_refl _) new
    refine ⟨.ref s.heap.objs.size, _, I1, rfl, ⟨_, x, rfl, I.hok.fresh (Nat.le_refl _), rfl, fun ys hy => by rw [I.tuple_inj hy hq]; exact hx⟩, ⟨⟨x', ?_⟩, hst'.1.at fun o q => (sb.2 it (Ne.symm hne)).trans q, hne⟩, fun b hb => ?_⟩
    · have e1 : ((i + 1 : Nat) : Int) = (i : Int) + 1 := by omega
      rw [e1]; exact he'
    · have hb' : b < s.heap.objs.size := by
        have e' : b = e ∨ b = it := by simpa using hb
        rcases e' with z | z
        · rw [z]; exact hel
        · rw [z]; exact hil
      rw [upd_ne (Nat.ne_of_lt hb')]
      exact (hf b hb).1
  done := by
    intro X hP hw hK hc i pins s σ H E I hf st hg
    subst hP hw hK
    obtain ⟨⟨old, he⟩, hit, hne⟩ := st
    obtain ⟨xs, hq, hx⟩ := hg
    obtain ⟨its, rv, p, hz⟩ := I.tuple hq
    obtain ⟨f0, f1, f2, f3, f4, f5⟩ := hf it (by simp)
    have hl := rv.length
    have D : Draws X.prog X.w X.A.in1 it [it, a] its.toArray.size (fun i v => its.toArray[i]? = some v) (fun i h => h.IsTupleIter it a i ∧ h.IsTuple a its.toArray) := Draws.tuple (prog := X.prog) (w := X.w) (A := X.A.in1) (I.ok.hd hc) it a hai its.toArray
    have hi : i = its.toArray.size := by
      rw [List.size_toArray]
      omega
    exact wpAny_pyNext_enum_endD D he ⟨by rw [← hi]; exact hit, p⟩ fun h' eb => ⟨rfl, I.turned (t' := s.toks) (fun b o hb q => eb b o hb q) f0 f1 f3 f4 f5⟩
  self := fun A i s Q E st h => let ⟨⟨_, he⟩, _⟩ := st; wpAny_pyIter_enum he h
def iEnumT (K : PySem.W.Frag) (ta : TA) : TI := fun σ H R => ta σ H fun vs H1 => ∃ a xs, vs = [.ref a] ∧ SqT K H1 a xs ∧ R (IteT K a) H1
theorem pi_enumT {X : Cx} {e : Expr} {ta : TA} {p pos tpos : Pos} {elts : List Expr} {kk : Nat} (hg : Gl X "enumerate") (hm : X.mg "enumerate" = none) (ha : PA X [e] ta) (hs : starEach [e] X.env = [(false, eval e X.env)] := by rfl) :
    PI X (.Tuple elts kk tpos) (.Call (.Name "enumerate" p) [e] [] pos) (iEnumT X.K ta) := by
  refine ⟨fun pins s σ H R I h => ?_⟩
  refine Call_ (ld_blt I hg hm boot_enumerate (PyProof.Rows.callWith_type1 (thn (ha.run pos pins s σ H _ I h) fun us s1 ⟨vs, H1, I1, r1, q1⟩ => ?_) hs rfl))
  obtain ⟨a, xs, ex, hq, q⟩ := q1
  subst ex
  cases r1 with
  | cons r rr =>
    cases rr
    cases r
    obtain ⟨its, rv, p', hz⟩ := I1.tuple hq
    have hal : a < s1.heap.objs.size := p'.lt
    refine call_enumT (show s1.heap.IsTuple a its.toArray from p') fun h' he hit hsz hk => wpAny_pyIter_enum he ?_
    have I2 : Inv X pins σ H1 { s1 with heap := h' } := I1.kept (t' := s1.toks) hk
    refine ⟨s1.heap.objs.size + 1, [s1.heap.objs.size + 1, s1.heap.objs.size], _, _, H1, rfl, I2, turn_enumT a (s1.heap.objs.size + 1) s1.heap.objs.size (Nat.ne_of_lt hal) (Nat.ne_of_lt (Nat.lt_succ_of_lt hal)), ⟨⟨.none, he⟩, hit, Nat.succ_ne_self _⟩, fun b hb => ?_, q⟩
    have e' : b = s1.heap.objs.size + 1 ∨ b = s1.heap.objs.size := by simpa using hb
    have hle : s1.heap.objs.size ≤ b := by
      rcases e' with z | z
      · rw [z]; exact Nat.le_add_right _ _
      · rw [z]; exact Nat.le_refl _
    exact I1.fpOk hle (I1.hok.fresh hle)

/-! ### zip of a text and a tuple -/
def ItzST (K : PySem.W.Frag) (z : Str) (b : Addr) : It :=
  ⟨fun i H => ∃ (c : Nat) (ys : List V) (y : V), SqT K H b ys ∧ z.cps[i]? = some c ∧ ys[i]? = some y,
    fun i H v H' => ∃ T c y, v = .ref T ∧ H T = none ∧ H' = upd H T (.tup [.str ⟨#[c]⟩, y]) ∧ z.cps[i]? = some c ∧ ∀ ys, SqT K H b ys → ys[i]? = some y,
    fun i H => ∃ ys : List V, SqT K H b ys ∧ i ≤ z.cps.size ∧ i ≤ ys.length ∧ (z.cps.size = i ∨ ys.length = i)⟩
theorem turn_zipST {P : Program} {w : World} {K : PySem.W.Frag} {elts : List Expr} {kk : Nat} {tpos : Pos} {b z TI TO i1 i2 : Addr} {x : Str} {t : Tok} (S : ZipSep2 z TI TO i1 i2 [i1] [i2, b]) (hbi : b ≠ i2) :
    Turn P w K (.Tuple elts kk tpos) (ItzST K x b) [z, TI, TO, i1, i2] z (fun i h => IsZip h z TI TO .none ∧ IsTupOf2 h TI (.ref i1) (.ref i2) ∧ (∃ x y, IsTupOf2 h TO x y) ∧ h.IsStrIter i1 (strIterType x) x t i ∧ h.IsTupleIter i2 b i) where
  mem := by simp
  obj := fun i h st c hc => by
    obtain ⟨hz, hTI, ⟨x, y, hTO⟩, ⟨o1, e1, _, d1⟩, ⟨o2, e2, _, d2⟩⟩ := st
    have e' : c = z ∨ c = TI ∨ c = TO ∨ c = i1 ∨ c = i2 := by simpa using hc
    rcases e' with q | q | q | q | q
    · rw [q]; exact ⟨_, hz, fun v q => nomatch q⟩
    · rw [q]; exact ⟨_, hTI, fun v q => nomatch q⟩
    · rw [q]; exact ⟨_, hTO, fun v q => nomatch q⟩
    · rw [q]; exact ⟨o1, e1, fun v q => by rw [d1] at q; cases q⟩
    · rw [q]; exact ⟨o2, e2, fun v q => by rw [d2] at q; cases q⟩
  keep := fun i h h' st k => by
    obtain ⟨hz, hTI, ⟨x, y, hTO⟩, ⟨o1, q1, r1⟩, h2⟩ := st
    exact ⟨k z (by simp) _ hz, k TI (by simp) _ hTI, ⟨x, y, k TO (by simp) _ hTO⟩, ⟨o1, k i1 (by simp) _ q1, r1⟩, h2.at fun o q => k i2 (by simp) o q⟩
  item := by
    intro X hP hw hK hc i pins s σ H E I hf st hg
    subst hP hw hK
    obtain ⟨hz, hTI, ⟨x0, y0, hTO⟩, h1, h2⟩ := st
    obtain ⟨c, ys, y, hqy, hx, hy⟩ := hg
    obtain ⟨its2, rv2, p2, _⟩ := I.tuple hqy
    obtain ⟨u2, hu2, ru2⟩ := rv2.get hy
    have hzl : z < s.heap.objs.size := Heap.lt_size hz
    have D1 := Draws.text (prog := X.prog) (w := X.w) (A := X.A.in1) (I.ok.hd hc) i1 x t
    have D2 := Draws.tuple (prog := X.prog) (w := X.w) (A := X.A.in1) (I.ok.hd hc) i2 b hbi its2.toArray
    have hlt1 : i < x.cps.size := (Array.getElem?_eq_some_iff.mp hx).1
    have hlt2 : i < its2.toArray.size := by
      have := (List.getElem?_eq_some_iff.mp hu2).1
      simpa using this
    refine wpAny_pyNext_zipD2_item S D1 D2 hz hTI hTO h1 ⟨h2, p2⟩ hlt1 hlt2 fun v1 v2 h' tk hp1 hp2 z' TO' h1' h2' hT hsz hk => ?_
    obtain ⟨c', tc, hc', rfl⟩ := hp1
    have ec : c' = c := by rw [hx] at hc'; exact (Option.some.inj hc').symm
    subst ec
    have ev : v2 = u2 := by
      have hu' : its2.toArray[i]? = some u2 := by simpa using hu2
      rw [hu'] at hp2
      exact (Option.some.inj hp2).symm
    subst ev
    refine ⟨_, rfl, wpAny_letOwnedTupleGo_zip (s := { s with heap := h', toks := tk }) z' fun h'' z'' sb => ?_⟩
    have hT2 : h''.get? s.heap.objs.size = some { cls := .type "tuple", data := .seq #[.str ⟨#[c']⟩ tc, v2] } := (sb.2 _ (Nat.ne_of_gt hzl)).trans hT
    have new : ObjOk X.prog X.w (upd H s.heap.objs.size (.tup [.str ⟨#[c']⟩, y])) h'' s.heap.objs.size (.tup [.str ⟨#[c']⟩, y]) :=
      ⟨by show 2 ≤ sizeLine; decide, [.str ⟨#[c']⟩ tc, v2], .cons ⟨_, rfl⟩ (.cons ru2 .nil), ⟨_, hT2, rfl, _, rfl⟩⟩
    have I1 : Inv X pins σ (upd H s.heap.objs.size (.tup [.str ⟨#[c']⟩, y])) { s with heap := h'', toks := tk } :=
      I.turnedNew (ch := [z, TI, TO, i1, i2]) (fun c o hb q => (sb.2 c (fun q' => hb (by simp [q']))).trans (hk c o (fun q' => hb (by simp [q'])) (fun q' => hb (by simp [q'])) (fun q' => hb (by simp [q'])) (fun q' => hb (by simp [q'])) q)) hf (Nat.le_refl _) new
    refine ⟨.ref s.heap.objs.size, _, I1, rfl, ⟨_, c', y, rfl, I.hok.fresh (Nat.le_refl _), rfl, hx, fun l hl => by rw [I.tuple_inj hl hqy]; exact hy⟩, ⟨z'', ?_, ⟨.str ⟨#[c']⟩ tc, v2, ?_⟩, ?_, ?_⟩, fun c hcm => ?_⟩
    · exact (sb.2 _ S.TIz).trans (hk _ _ S.TIz S.TITO S.TIi1 S.TIi2 hTI)
    · exact (sb.2 _ S.TOz).trans TO'
    · obtain ⟨o1, q1, r1⟩ := h1'
      exact ⟨o1, (sb.2 _ (Ne.symm S.zi1)).trans q1, r1⟩
    · exact h2'.1.at fun o q => (sb.2 _ (Ne.symm S.zi2)).trans q
    · have hlt : c < s.heap.objs.size := by
        have e' : c = z ∨ c = TI ∨ c = TO ∨ c = i1 ∨ c = i2 := by simpa using hcm
        rcases e' with q | q | q | q | q
        · rw [q]; exact hzl
        · rw [q]; exact Heap.lt_size hTI
        · rw [q]; exact Heap.lt_size hTO
        · rw [q]; obtain ⟨_, e1, _⟩ := h1; exact Heap.lt_size e1
        · rw [q]; obtain ⟨_, e2, _⟩ := h2; exact Heap.lt_size e2
      rw [upd_ne (Nat.ne_of_lt hlt)]
      exact (hf c hcm).1
  done := by
    intro X hP hw hK hc i pins s σ H E I hf st hg
    subst hP hw hK
    obtain ⟨hz, hTI, ⟨x0, y0, hTO⟩, h1, h2⟩ := st
    obtain ⟨ys, hqy, hle1, hle2, hend⟩ := hg
    obtain ⟨its2, rv2, p2, _⟩ := I.tuple hqy
    have l2 := rv2.length
    have e2 : its2.toArray.size = ys.length := by rw [List.size_toArray]; exact l2.symm
    have D1 := Draws.text (prog := X.prog) (w := X.w) (A := X.A.in1) (I.ok.hd hc) i1 x t
    have D2 := Draws.tuple (prog := X.prog) (w := X.w) (A := X.A.in1) (I.ok.hd hc) i2 b hbi its2.toArray
    exact wpAny_pyNext_zipD2_end S D1 D2 hz hTI hTO h1 ⟨h2, p2⟩ hle1 (by rw [e2]; exact hle2) (by rw [e2]; rcases hend with q | q; exact .inl q.symm; exact .inr q.symm) fun h' tk hk => ⟨rfl, I.turnedL (t' := tk) (ch := [z, TI, TO, i1, i2]) (fun c o hb q =>
      hk c o (fun q' => hb (by simp [q'])) (fun q' => hb (by simp [q'])) (fun q' => hb (by simp [q'])) (fun q' => hb (by simp [q'])) q) hf⟩
  self := fun A i s Q E st h => wpAny_pyIter_zip st.1 h
def iZipST (K : PySem.W.Frag) (ta : TA) : TI := fun σ H R => ta σ H fun vs H1 => ∃ z b ys, vs = [.str z, .ref b] ∧ SqT K H1 b ys ∧ R (ItzST K z b) H1
theorem pi_zipST {X : Cx} {e e2 : Expr} {ta : TA} {p pos tpos : Pos} {elts : List Expr} {kk : Nat} (hg : Gl X "zip") (hm : X.mg "zip" = none) (ha : PA X [e, e2] ta)
    (hs : starEach [e, e2] X.env = (false, eval e X.env) :: starEach [e2] X.env := by rfl) (hpl : (backTo pos (starEach [e2] X.env)).any (·.1) = false := by rfl) :
    PI X (.Tuple elts kk tpos) (.Call (.Name "zip" p) [e, e2] [] pos) (iZipST X.K ta) := by
  refine ⟨fun pins s σ H R I h => ?_⟩
  refine Call_ (ld_blt I hg hm PyProof.Rows.boot_zip (PyProof.Rows.callWith_type1 (thn (ha.run pos pins s σ H _ I h) fun us s1 ⟨vs, H1, I1, r1, q1⟩ => ?_) hs hpl))
  obtain ⟨z, b, ys, ex, hqy, q⟩ := q1
  subst ex
  cases r1 with
  | cons r rr =>
    cases rr with
    | cons r' rr =>
      cases rr
      obtain ⟨t, rfl⟩ := r
      cases r'
      obtain ⟨its2, rv2, p2, _⟩ := I1.tuple hqy
      have hbl : b < s1.heap.objs.size := p2.lt
      have fresh5 : ∀ c, c ∈ [s1.heap.objs.size + 4, s1.heap.objs.size + 2, s1.heap.objs.size + 3, s1.heap.objs.size, s1.heap.objs.size + 1] → FpOk X pins H1 c := fun c hcm => by
        have e' : c = s1.heap.objs.size + 4 ∨ c = s1.heap.objs.size + 2 ∨ c = s1.heap.objs.size + 3 ∨ c = s1.heap.objs.size ∨ c = s1.heap.objs.size + 1 := by simpa using hcm
        have hle : s1.heap.objs.size ≤ c := by
          rcases e' with z | z | z | z | z
          · rw [z]; exact Nat.le_add_right _ _
          · rw [z]; exact Nat.le_add_right _ _
          · rw [z]; exact Nat.le_add_right _ _
          · rw [z]; exact Nat.le_refl _
          · rw [z]; exact Nat.le_add_right _ _
        exact I1.fpOk hle (I1.hok.fresh hle)
      refine zip_begins2 (begins_text z t) (begins_tuple b its2.toArray) trivial (show s1.heap.IsTuple b its2.toArray from p2) fun h' hz hTI hTO h1 h2 hsz hk => wpAny_pyIter_zip hz ?_
      have I2 : Inv X pins σ H1 { s1 with heap := h' } := I1.kept (t' := s1.toks) hk
      have S : ZipSep2 (s1.heap.objs.size + 4) (s1.heap.objs.size + 2) (s1.heap.objs.size + 3) s1.heap.objs.size (s1.heap.objs.size + 1) [s1.heap.objs.size] [s1.heap.objs.size + 1, b] :=
        zip_sep2 (fp1 := []) (fp2 := [b]) (fun _ q => nomatch q) fun c q => by rw [List.mem_singleton.mp q]; exact hbl
      exact ⟨s1.heap.objs.size + 4, [s1.heap.objs.size + 4, s1.heap.objs.size + 2, s1.heap.objs.size + 3, s1.heap.objs.size, s1.heap.objs.size + 1], _, _, H1, rfl, I2, turn_zipST (x := z) (t := t) S (Nat.ne_of_lt (Nat.lt_succ_of_lt hbl)), ⟨hz, hTI, ⟨_, _, hTO⟩, ⟨_, h1, rfl, rfl⟩, ⟨_, h2, rfl, rfl⟩⟩, fresh5, q⟩

/-! ### an item of a written dict; repr of a bool; an attribute as a target -/
section
variable {X : Cx}
def rKd (K : PySem.W.Frag) (d : Addr) : R2 := fun x y H Q => ∃ (z : Str) (u0 : Value) (v0 : V), x = .ref d ∧ y = .str z ∧ PySem.W.nsIn K d z = some (some u0) ∧ RelV v0 u0 ∧ Q v0 H
theorem ix_kd {d : Addr} {es : Array DictEntry} {n : Nat} (D : KDict X.K X.w d es n) : IxR X (rKd X.K d) := by
  intro value slice pins s σ H x y v u Q I rx ry h hs
  obtain ⟨z, u0, v0, rfl, rfl, e, r, q⟩ := h
  cases rx
  obtain ⟨t, rfl⟩ := ry
  refine tail_any (kd_type D I) PySem.F.slot_dict_getitem.lookup ?_ hs
  exact wpAny_getItem_of (PySem.strKind_is X.prog X.w z t) (PySem.W.mapOf_K (prog := X.prog) I.kIn D.at_ D.lit) (PySem.W.find_K D.at_ e) ⟨v0, H, I.tok _, r, q⟩
theorem call_repr_bl : CallR X (.builtin "repr") (fun xs H Q => ∃ b, xs = [.bl b] ∧ Q (.str (if b then "True" else "False")) H) := by
  intro pins s σ H xs us Q I r h
  obtain ⟨b, rfl, q⟩ := h
  obtain ⟨u, rfl, rfl⟩ := vals1 r
  exact PySem.P.repr_of_bool ⟨.str _, H, I.tok _, ⟨_, rfl⟩, q⟩
/-- o.f as a target -/
def gFld (K : PySem.W.Frag) (ta : TE) (f : Str) : TG := fun v σ H Q => ta σ H fun x H1 => ∃ a C dx fs, x = .ref a ∧ H1 a = some (.ins C dx fs) ∧ Cls K C ∧ NoAttr K C f ∧ fs.length < 1000 ∧ Q σ (upd H1 a (.ins C dx (putF f v fs)))
theorem pg_fld {o : Expr} {f : Str} {ta : TE} {pos : Pos} (ha : PE X o ta) (hs : ∀ v, assign (.Attribute o f pos) X.env v = (do
      let ov ← holding [v] (eval o X.env)
      standAt pos.atName
      holding [v, ov] (setAttr ov f v)
      release [v, ov] []) := by intro _; rfl) : PG X (.Attribute o f pos) (gFld X.K ta f) := by
  refine ⟨fun pins s σ H v u Q I r h => ?_⟩
  rw [hs]
  refine wpAny_bind (wpAny_holding (thn (ha.run pins s σ H _ I h) fun ov s1 ⟨x, H1, I1, r1, a, C, dx, fs, ex, ea, c, n, l, q⟩ => ?_))
  subst ex
  obtain rfl : ov = Value.ref a := r1
  refine wpAny_bind (wpAny_standAt (wpAny_bind (wpAny_holding (setattr_ok I1 ea c n l r fun s3 I3 => ?_))))
  exact wpAny_release ⟨σ, _, I3, q⟩
end
end LW
namespace LW
open PySem PySem.Spec PyProof.Rows L2 Evl
open LB (Deed Lf P Hd)

/-! ### the text by places -/
def top (i : Nat) : Stmt := PySem.Challenge.pw_likebeats_k19_whole_runs_hold_together.main.body.getD i (.Pass ⟨0, 0, 0, 0⟩)
/-- a def of the text -/
structure Df (K : PySem.W.Frag) (mg : Str → Option Value) (x : Str) (st : Stmt) (ps : List Str) : Prop where
  ex : ∃ f fd, Fun K x x st f fd ∧ mg x = some (.ref f) ∧ Binds K fd ps []
/-- a def that keeps its promise and is called where it raises nothing -/
structure Cl (P : Program) (w : World) (K : PySem.W.Frag) (mg : Str → Option Value) (base : Heap) (k : Nat) (x : Str) (sp : Sp) : Prop where
  ex : ∃ (CX : CXT) (f : Addr) (fd : FuncData) (ps : List Str), FnOk P w K mg base CX k f fd ps sp ∧ (CX = CX0 ∨ CX = L2.CX P w) ∧ mg x = some (.ref f) ∧ PySem.W.keepIn K (.ref f) = true ∧ Binds K fd ps []
/-- .. one that may raise -/
structure ClX (P : Program) (w : World) (K : PySem.W.Frag) (mg : Str → Option Value) (base : Heap) (k : Nat) (x : Str) (sp : Sp) : Prop where
  ex : ∃ (f : Addr) (fd : FuncData) (ps : List Str), FnOk P w K mg base (L2.CX P w) k f fd ps sp ∧ mg x = some (.ref f) ∧ PySem.W.keepIn K (.ref f) = true ∧ Binds K fd ps []
section
variable {P : Program} {w : World} {K : PySem.W.Frag} {mg : Str → Option Value} {base : Heap}
theorem ClX.cl {k : Nat} {x : Str} {sp : Sp} (c : ClX P w K mg base k x sp) : Cl P w K mg base k x sp := by
  obtain ⟨f, fd, ps, F, hm, kp, hb⟩ := c.ex
  exact ⟨_, f, fd, ps, F, .inr rfl, hm, kp, hb⟩
theorem Df.cl {x : Str} {st : Stmt} {ps N : List Str} {k : Nat} {sp : Sp} (D : Df K mg x st ps) (S : FnScope N ps (defScope st)) (len : ∀ vs H Q E, sp vs H Q E → vs.length = ps.length)
    (hbody : ∀ (f : Addr) (cdv : Value) (A : Around) (outer : List Env) (s : Shared) (H : Hp) (vs : List V) (Q : VK) (E : XK), Room k (A.deeper (envOfC x (defScope st) s.heap.objs.size f cdv)) → sp vs H Q E →
      ∃ t, PSs (cxOf CX0 P w K mg base N x (defScope st) f cdv A outer s H E).nox (defBody st) t ∧ t { nx := fun _ H' => Q .non H', rt := Q } (start N vs) H) : Cl P w K mg base (k + 1) x sp := by
  obtain ⟨f, fd, F, hm, hb⟩ := D.ex
  exact ⟨CX0, f, fd, ps, F.ok S len (hbody f), .inl rfl, hm, F.kp, hb⟩
theorem Df.clx {x : Str} {st : Stmt} {ps N : List Str} {k : Nat} {sp : Sp} (D : Df K mg x st ps) (S : FnScope N ps (defScope st)) (len : ∀ vs H Q E, sp vs H Q E → vs.length = ps.length)
    (hbody : ∀ (f : Addr) (cdv : Value) (A : Around) (outer : List Env) (s : Shared) (H : Hp) (vs : List V) (Q : VK) (E : XK), Room k (A.deeper (envOfC x (defScope st) s.heap.objs.size f cdv)) → sp vs H Q E →
      ∃ t, PSs (cxOf (L2.CX P w) P w K mg base N x (defScope st) f cdv A outer s H E) (defBody st) t ∧ t { nx := fun _ H' => Q .non H', rt := Q } (start N vs) H) : ClX P w K mg base (k + 1) x sp := by
  obtain ⟨f, fd, F, hm, hb⟩ := D.ex
  exact ⟨f, fd, ps, F.okX S len (hbody f), hm, F.kp, hb⟩
theorem Cl.imp {k : Nat} {x : Str} {sp sp' : Sp} (c : Cl P w K mg base k x sp) (h : ∀ vs H Q E, sp' vs H Q E → sp vs H Q E) : Cl P w K mg base k x sp' := by
  obtain ⟨CX, f, fd, ps, F, hx, hm, kp, hb⟩ := c.ex
  exact ⟨CX, f, fd, ps, F.imp h, hx, hm, kp, hb⟩
end
section
variable {X : Cx} {k j : Nat} {x : Str} {sp : Sp} {p pos : Pos} {e : Expr} {es : List Expr} {t : TA} {E : XK} {W : WX}
theorem pe_u (c : Cl X.prog X.w X.K X.mg X.base k x sp) (hr : Room j X.A) (hk : k ≤ j) (hg : Gl X x) (ha : PA X (e :: es) t)
    (hdb : (x == ("__debug__" : Str)) = false := by decide) (he : starEach (e :: es) X.env = (false, eval e X.env) :: starEach es X.env := by rfl) (hpl : (backTo pos (starEach es X.env)).any (·.1) = false := by rfl) :
    PE X (.Call (.Name x p) (e :: es) [] pos) (tCall sp [] E0 t) := by
  obtain ⟨CX, f, fd, ps, F, hx, hm, kp, b⟩ := c.ex
  rcases hx with rfl | rfl
  · exact pe_call F (hr.mono hk) hg hm kp b .nil pass0 ha hdb he hpl
  · exact pe_call F (hr.mono hk) hg hm kp b .nil passL ha hdb he hpl
theorem pe_u0 (c : Cl X.prog X.w X.K X.mg X.base k x sp) (hr : Room j X.A) (hk : k ≤ j) (hg : Gl X x) (hdb : (x == ("__debug__" : Str)) = false := by decide) : PE X (.Call (.Name x p) [] [] pos) (tCall sp [] E0 tNil) := by
  obtain ⟨CX, f, fd, ps, F, hx, hm, kp, b⟩ := c.ex
  rcases hx with rfl | rfl
  · exact pe_call0 F (hr.mono hk) hg hm kp b .nil pass0 hdb
  · exact pe_call0 F (hr.mono hk) hg hm kp b .nil passL hdb
theorem pe_ux (c : ClX X.prog X.w X.K X.mg X.base k x sp) (hr : Room j X.A) (hk : k ≤ j) (hg : Gl X x) (tk : Takes X W) (hW : ∀ cls d σ H, E cls d H → W cls d σ H) (ha : PA X (e :: es) t)
    (hdb : (x == ("__debug__" : Str)) = false := by decide) (he : starEach (e :: es) X.env = (false, eval e X.env) :: starEach es X.env := by rfl) (hpl : (backTo pos (starEach es X.env)).any (·.1) = false := by rfl) :
    PE X (.Call (.Name x p) (e :: es) [] pos) (tCall sp [] E t) := by
  obtain ⟨f, fd, ps, F, hm, kp, b⟩ := c.ex
  exact pe_call F (hr.mono hk) hg hm kp b .nil (passes_call tk hW) ha hdb he hpl
end
theorem pe_gc {X : Cx} {x : Str} {v : V} {pos : Pos} (hg : Gl X x) (h : ∃ u, X.mg x = some u ∧ RelV v u) (hd : (x == ("__debug__" : Str)) = false := by decide) : PE X (.Name x pos) (tC v) := by
  obtain ⟨u, hm, r⟩ := h
  exact pe_glob hg hm r hd
theorem huD {k : Nat} {A : Around} (hr : Room k A) : A.units + 65 < cLine := by
  have := hr.un
  omega

/-! ### rules with the written part named (within comprehensions) -/
section
variable (K : PySem.W.Frag) {X : Cx}
theorem op_catAK (h : X.K = K := by rfl) : OpR X (binaryOp .Add) (rCatA K) := h ▸ op_catA
theorem ix_tupK (h : X.K = K := by rfl) : IxR X (rIxT K) := h ▸ ix_tup
theorem ix_listK (h : X.K = K := by rfl) : IxR X (rIxL K) := h ▸ ix_list
theorem op_eqDK {k : Nat} (hr : Room k X.A) (h : X.K = K := by rfl) : OpR X (compareOp .Eq) (rEqD K) := h ▸ op_eqD hr.units
theorem op_neDK {k : Nat} (hr : Room k X.A) (h : X.K = K := by rfl) : OpR X (compareOp .NotEq) (rNeD K) := h ▸ op_neD hr.units
theorem op_inK (h : X.K = K := by rfl) : OpR X (compareOp .In) (rIn K false) := h ▸ op_in_seq
theorem op_niK (h : X.K = K := by rfl) : OpR X (compareOp .NotIn) (rIn K true) := h ▸ op_notIn_seq
theorem sl_listK (h : X.K = K := by rfl) : SlR X (rSlL K) := h ▸ sl_list
theorem sl_tupAK (h : X.K = K := by rfl) : SlR X (rSlA K) := h ▸ sl_tupA
theorem call_lenK (h : X.K = K := by rfl) : CallR X (.builtin "len") (rLenS K) := h ▸ call_len_seq
theorem call_isiK (h : X.K = K := by rfl) : CallR X (.builtin "isinstance") (rIsi K) := h ▸ call_isi
theorem cr_allK (hc : X.calm = true) (h : X.K = K := by rfl) : CallR X (.builtin "all") (rAll K) := h ▸ cr_all hc
theorem call_listK (h : X.K = K := by rfl) : CallR X (.type "list") (rListS K) := h ▸ call_list_of
theorem pe_tupleOfK {a : Expr} {ta : TE} {p pos : Pos} (hg : Gl X "tuple") (hm : X.mg "tuple" = none) (ha : PE X a ta) (h : X.K = K := by rfl) (hs : starEach [a] X.env = (false, eval a X.env) :: starEach [] X.env := by rfl) :
    PE X (.Call (.Name "tuple" p) [a] [] pos) (tThen ta (kTup K)) := h ▸ pe_tupleOf hg hm ha hs
end

/-! ### what the top has written -/
/-- a written dict with text keys -/
def KD (K : PySem.W.Frag) (w : World) (d : Addr) : Prop := ∃ es n, KDict K w d es n
/-- a written tuple -/
def KT (K : PySem.W.Frag) (a : Addr) (xs : List V) : Prop := ∃ (o : Obj) (its : Array Value) (n : Nat), K.lookup a = some o ∧ o.cls = .type "tuple" ∧ o.data = .seq its n ∧ its.size ≤ sizeLine ∧ Vals xs its.toList
theorem KT.seq {K : PySem.W.Frag} {a : Addr} {xs : List V} (h : KT K a xs) {H : Hp} : SqT K H a xs := .inr h
section
variable {X : Cx}
theorem ix_kdX {d : Addr} (D : KD X.K X.w d) : IxR X (rKd X.K d) := by
  obtain ⟨es, n, D⟩ := D
  exact ix_kd D
def rNotKd (K : PySem.W.Frag) (d : Addr) : R2 := fun x y H Q => ∃ (z : Str) (r : Option Value), x = .str z ∧ y = .ref d ∧ PySem.W.nsIn K d z = some r ∧ Q (.bl (!r.isSome)) H
theorem op_notIn_kdX {d : Addr} (D : KD X.K X.w d) : OpR X (compareOp .NotIn) (rNotKd X.K d) := by
  obtain ⟨es, n, D⟩ := D
  exact op_notIn_kd D
end
def formList : List (Str × Str) := [("set", "sn"), ("copy", "sr"), ("add", "srr"), ("sub", "srr"), ("less", "srr"), ("same", "srr"), ("mix", "srr"), ("pick", "srrr"), ("times", "srr"), ("parts", "srr"), ("take", "str"), ("put", "trr"),
  ("touch", "tr"), ("tell", "r"), ("idle", "m"), ("if", "raa"), ("round", "ga"), ("turn", "ra")]
def boundList : List (Str × Int × Int) := [("s", 0, 31), ("r", 0, 31), ("n", 0, 15), ("t", 0, 3), ("m", 1, 60), ("g", 1, 15)]
/-- an int that stands under a name of the module -/
abbrev GI (mg : Str → Option Value) (x : Str) (v : V) : Prop := ∃ u, mg x = some u ∧ RelV v u
structure Txt (K : PySem.W.Frag) (mg : Str → Option Value) (w : World) (dF dB aSt aOt aMm : Addr) : Prop where
  n_len : mg "len" = none
  n_min : mg "min" = none
  n_max : mg "max" = none
  n_isinstance : mg "isinstance" = none
  n_all : mg "all" = none
  n_repr : mg "repr" = none
  n_int : mg "int" = none
  n_bool : mg "bool" = none
  n_str : mg "str" = none
  n_tuple : mg "tuple" = none
  n_list : mg "list" = none
  n_range : mg "range" = none
  n_enumerate : mg "enumerate" = none
  n_zip : mg "zip" = none
  g_MOST_WORD : GI mg "MOST_WORD" (.int 15)
  g_MANY_BOXES : GI mg "MANY_BOXES" (.int 32)
  g_MANY_TABLES : GI mg "MANY_TABLES" (.int 4)
  g_MANY_CELLS : GI mg "MANY_CELLS" (.int 16)
  g_MOST_STEPS : GI mg "MOST_STEPS" (.int 400)
  g_MOST_DEEP : GI mg "MOST_DEEP" (.int 8)
  g_MOST_HIDDEN : GI mg "MOST_HIDDEN" (.int 2)
  g_MOST_EVENTS : GI mg "MOST_EVENTS" (.int 20000)
  g_ROOM : GI mg "ROOM" (.int 4)
  g_AN_ARM : GI mg "AN_ARM" (.str "a")
  g_READ_BOX : GI mg "READ_BOX" (.str "r")
  g_FORMS : GI mg "FORMS" (.ref dF)
  g_BOUNDS : GI mg "BOUNDS" (.ref dB)
  g_STOPS : GI mg "STOPS" (.ref aSt)
  g_OF_TABLES : GI mg "OF_TABLES" (.ref aOt)
  g_MOST_MAKE : GI mg "MOST_MAKE" (.ref aMm)
  FORMS : KD K w dF
  BOUNDS : KD K w dB
  forms : ∀ x ∈ formList, ∃ t, PySem.W.nsIn K dF x.1 = some (some (.str x.2 t))
  bounds : ∀ x ∈ boundList, ∃ a, PySem.W.nsIn K dB x.1 = some (some (.ref a)) ∧ KT K a [.int x.2.1, .int x.2.2]
  stops : KT K aSt [.str "if", .str "round", .str "turn", .str "tell", .str "idle"]
  oft : KT K aOt [.str "take", .str "put", .str "touch"]
  mm : KT K aMm [.int 4, .int 9, .int 9, .int 4, .int 1]

/-! ### arguments one by one -/
section
variable {K : PySem.W.Frag} {H : Hp} {vs : List V} {a b c d e f : PyData}
theorem dps1 (h : DpAll K H vs [a]) : ∃ x, vs = [x] ∧ Dp K H x a := by
  cases h with
  | cons h1 h => cases h; exact ⟨_, rfl, h1⟩
theorem dps2 (h : DpAll K H vs [a, b]) : ∃ x y, vs = [x, y] ∧ Dp K H x a ∧ Dp K H y b := by
  cases h with
  | cons h1 h =>
    obtain ⟨y, rfl, h2⟩ := dps1 h
    exact ⟨_, y, rfl, h1, h2⟩
theorem dps3 (h : DpAll K H vs [a, b, c]) : ∃ x y z, vs = [x, y, z] ∧ Dp K H x a ∧ Dp K H y b ∧ Dp K H z c := by
  cases h with
  | cons h1 h =>
    obtain ⟨y, z, rfl, h2, h3⟩ := dps2 h
    exact ⟨_, y, z, rfl, h1, h2, h3⟩
theorem dps4 (h : DpAll K H vs [a, b, c, d]) : ∃ x y z u, vs = [x, y, z, u] ∧ Dp K H x a ∧ Dp K H y b ∧ Dp K H z c ∧ Dp K H u d := by
  cases h with
  | cons h1 h =>
    obtain ⟨y, z, u, rfl, h2, h3, h4⟩ := dps3 h
    exact ⟨_, y, z, u, rfl, h1, h2, h3, h4⟩
theorem dps5 (h : DpAll K H vs [a, b, c, d, e]) : ∃ x y z u v, vs = [x, y, z, u, v] ∧ Dp K H x a ∧ Dp K H y b ∧ Dp K H z c ∧ Dp K H u d ∧ Dp K H v e := by
  cases h with
  | cons h1 h =>
    obtain ⟨y, z, u, v, rfl, h2, h3, h4, h5⟩ := dps4 h
    exact ⟨_, y, z, u, v, rfl, h1, h2, h3, h4, h5⟩
end

/-! ### programs, worlds, makes as data -/
def opN : LB.Op2 → Str
  | .add => "add" | .sub => "sub" | .less => "less" | .same => "same" | .mix => "mix" | .times => "times" | .parts => "parts"
abbrev nD (n : Nat) : PyData := .int (n : Int)
def deedD : Deed → List PyData
  | .set b n => [.str "set", nD b, nD n]
  | .copy b c => [.str "copy", nD b, nD c]
  | .op2 o b c d => [.str (opN o), nD b, nD c, nD d]
  | .pick b c d e => [.str "pick", nD b, nD c, nD d, nD e]
def lfD : Lf → List PyData
  | .deed d => deedD d
  | .take b t c => [.str "take", nD b, nD t, nD c]
  | .put t c d => [.str "put", nD t, nD c, nD d]
  | .touch t c => [.str "touch", nD t, nD c]
  | .tell c => [.str "tell", nD c]
  | .idle m => [.str "idle", nD m]
def progD : P → List PyData
  | .nil => []
  | .lf x r => .tuple (lfD x) :: progD r
  | .ite c a b r => .tuple [.str "if", nD c, .tuple (progD a), .tuple (progD b)] :: progD r
  | .rnd n a r => .tuple [.str "round", nD n, .tuple (progD a)] :: progD r
  | .trn c a r => .tuple [.str "turn", nD c, .tuple (progD a)] :: progD r
def hdD : Hd → List PyData
  | .lf x => lfD x
  | .ite c a b => [.str "if", nD c, .tuple (progD a), .tuple (progD b)]
  | .rnd n a => [.str "round", nD n, .tuple (progD a)]
  | .trn c a => [.str "turn", nD c, .tuple (progD a)]
theorem progD_heads : ∀ p : P, progD p = p.heads.map fun h => .tuple (hdD h)
  | .nil => rfl
  | .lf x r => congrArg (_ :: ·) (progD_heads r)
  | .ite c a b r => congrArg (_ :: ·) (progD_heads r)
  | .rnd n a r => congrArg (_ :: ·) (progD_heads r)
  | .trn c a r => congrArg (_ :: ·) (progD_heads r)
theorem progD_app (p q : P) : progD (p.app q) = progD p ++ progD q := by
  rw [progD_heads, progD_heads, progD_heads, LB.heads_app, List.map_append]
theorem progD_len (p : P) : (progD p).length = p.len := by rw [progD_heads, List.length_map, LB.len_heads]
def worldD (bx : List Int) (tabs : List (List Int)) : PyData := .tuple [.tuple (bx.map PyData.int), .tuple (tabs.map fun t => .tuple (t.map PyData.int))]
def makeD (m : LB.Mk) : PyData := .tuple [nD m.near, nD m.far, nD m.wrong, nD m.width, nD m.long]
def pathD (p : List Nat) : PyData := .tuple (p.map nD)
theorem tdat_n (n : Nat) : tdat (nD n) = true := rfl
theorem tdats_n : ∀ l : List Nat, tdats (l.map nD) = true
  | [] => rfl
  | n :: l => by
    show tdats (nD n :: l.map nD) = true
    unfold tdats
    rw [tdats_n l]
    rfl
theorem tdat_path (p : List Nat) : tdat (pathD p) = true := tdat_tup (tdats_n p)
theorem tdat_lf (x : Lf) : tdat (.tuple (lfD x)) = true := by
  cases x with
  | deed d => cases d <;> rfl
  | _ => rfl
theorem tdats_prog : ∀ p : P, tdats (progD p) = true
  | .nil => rfl
  | .lf x r => by
    show tdats (.tuple (lfD x) :: progD r) = true
    unfold tdats
    rw [tdat_lf x, tdats_prog r]
    rfl
  | .ite c a b r => by
    show tdats (.tuple [.str "if", nD c, .tuple (progD a), .tuple (progD b)] :: progD r) = true
    unfold tdats
    rw [tdats_prog r]
    simp [tdat, tdats, tdats_prog a, tdats_prog b]
  | .rnd n a r => by
    show tdats (.tuple [.str "round", nD n, .tuple (progD a)] :: progD r) = true
    unfold tdats
    rw [tdats_prog r]
    simp [tdat, tdats, tdats_prog a]
  | .trn c a r => by
    show tdats (.tuple [.str "turn", nD c, .tuple (progD a)] :: progD r) = true
    unfold tdats
    rw [tdats_prog r]
    simp [tdat, tdats, tdats_prog a]
theorem tdat_prog (p : P) : tdat (.tuple (progD p)) = true := tdat_tup (tdats_prog p)
theorem tdat_hd (h : Hd) : tdat (.tuple (hdD h)) = true := by
  cases h with
  | lf x => exact tdat_lf x
  | ite c a b => simp [hdD, tdat, tdats, tdats_prog a, tdats_prog b]
  | rnd n a => simp [hdD, tdat, tdats, tdats_prog a]
  | trn c a => simp [hdD, tdat, tdats, tdats_prog a]
theorem tdat_world (bx : List Int) (tabs : List (List Int)) : tdat (worldD bx tabs) = true := by
  have h : tdats (tabs.map fun t => PyData.tuple (t.map PyData.int)) = true := tdats_all fun d hd => by
    obtain ⟨t, _, rfl⟩ := List.mem_map.mp hd
    exact tdat_tup (tdats_ints t)
  simp [worldD, tdat, tdats, tdats_ints bx, h]
theorem tdat_make (m : LB.Mk) : tdat (makeD m) = true := rfl
/-- the letters -/
def hdN : Hd → Str
  | .lf (.deed (.set _ _)) => "set" | .lf (.deed (.copy _ _)) => "copy" | .lf (.deed (.op2 o _ _ _)) => opN o | .lf (.deed (.pick _ _ _ _)) => "pick"
  | .lf (.take _ _ _) => "take" | .lf (.put _ _ _) => "put" | .lf (.touch _ _) => "touch" | .lf (.tell _) => "tell" | .lf (.idle _) => "idle"
  | .ite _ _ _ => "if" | .rnd _ _ => "round" | .trn _ _ => "turn"
theorem hdD_name (h : Hd) : ∃ r, hdD h = .str (hdN h) :: r := by
  cases h with
  | lf x =>
    cases x with
    | deed d => cases d <;> exact ⟨_, rfl⟩
    | _ => exact ⟨_, rfl⟩
  | _ => exact ⟨_, rfl⟩
end LW
namespace LW
open PySem PySem.Spec PyProof.Rows L2 Evl
open LB (Deed Lf P Hd)
section
variable {K : PySem.W.Frag} {σ : L2.St} {H H' : Hp} {ta tb te tc : TE} {t u : TT} {v : V} {d dx dy : PyData} {r : R2} {tr : TA}
/-! ### isinstance -/
def tyD : PyData → String
  | .none => "NoneType" | .bool _ => "bool" | .int _ => "int" | .str _ => "str" | .list _ => "list" | .tuple _ => "tuple" | .dict _ => "dict"
theorem tyX_d : ∀ {d : PyData} {x : V}, Dp K H x d → TyX K H x (.type (tyD d))
  | .none, _, h => by cases h; exact .base .non
  | .bool b, _, h => by cases h; exact .base (.bl b)
  | .int i, _, h => by cases h; exact .base (.int i)
  | .str x, _, h => by cases h; exact .base (.str x)
  | .list ds, _, h => by
    cases h with
    | lst hs _ =>
      rcases hs with (q | ⟨o, q⟩) | ⟨o, its, n, q, c, _⟩
      · exact .base (.lst q)
      · exact .base (.frz q)
      · exact .kList q c
  | .tuple ds, _, h => by
    cases h with
    | tup hs _ =>
      rcases hs with (q | ⟨o, q⟩) | ⟨o, its, n, q, c, _⟩
      · exact .base (.tup q)
      · exact .fTuple q
      · exact .kTuple q c
  | .dict _, _, h => by cases h
theorem ed_isi {T : String} {b : Bool} (h : ED K ta σ H d) (hb : kitB (tyD d) T = some b) : ED K (tCB (rIsi K) (tCons ta (tCons (tC (.ty T)) tNil))) σ H (.bool b) := fun H1 e Q q =>
  h H1 e _ fun x H2 e2 hx => ⟨x, .ty T, _, _, b, rfl, .ty T, tyX_d hx, kit_ty hb, q _ H2 e2 (.bl b)⟩

theorem kb_ii : kitB "int" "int" = some true := by decide +kernel
theorem kb_ib : kitB "int" "bool" = some false := by decide +kernel
theorem kb_tt : kitB "tuple" "tuple" = some true := by decide +kernel
theorem kb_ss : kitB "str" "str" = some true := by decide +kernel
theorem eo_c {i : Int} : EvO (tPart (tC (.int i))) σ H (some i) := eo_some ev_c
/-! ### zips, enumerates -/
/-- the pairs of two rows -/
def pairD : List PyData → List PyData → List PyData
  | a :: as, b :: bs => .tuple [a, b] :: pairD as bs
  | _, _ => []
theorem pairD_len : ∀ as bs : List PyData, (pairD as bs).length = min as.length bs.length
  | [], _ => by simp [pairD]
  | _ :: _, [] => by simp [pairD]
  | a :: as, b :: bs => by
    show (pairD as bs).length + 1 = min (as.length + 1) (bs.length + 1)
    rw [pairD_len as bs]
    omega
theorem pairD_at : ∀ {as bs : List PyData} {i : Nat} {d : PyData}, (pairD as bs)[i]? = some d → ∃ a b, as[i]? = some a ∧ bs[i]? = some b ∧ d = .tuple [a, b]
  | [], _, _, _, h => by simp [pairD] at h
  | _ :: _, [], _, _, h => by simp [pairD] at h
  | a :: as, b :: bs, 0, d, h => by
    have h : PyData.tuple [a, b] = d := by simpa [pairD] using h
    exact ⟨a, b, rfl, rfl, h.symm⟩
  | a :: as, b :: bs, i + 1, d, h => by
    obtain ⟨x, y, h1, h2, h3⟩ := pairD_at (as := as) (bs := bs) (i := i) (by simpa [pairD] using h)
    exact ⟨x, y, by simpa using h1, by simpa using h2, h3⟩
theorem dp_pair {H : Hp} {T : Addr} {x y : V} {a b : PyData} (hT : H T = none) (hx : Dp K H x a) (hy : Dp K H y b) : Dp K (upd H T (.tup [x, y])) (.ref T) (.tuple [a, b]) :=
  .tup (st_of upd_same) (.cons (hx.ex (Ex.new hT)) (.cons (hy.ex (Ex.new hT)) .nil))
theorem jd_zipT {a b : Addr} {xs ys : List V} {as bs : List PyData} {Kp : Hp → Prop} (h : ∀ H3, Kp H3 → (SqT K H3 a xs ∧ DpAll K H3 xs as) ∧ SqT K H3 b ys ∧ DpAll K H3 ys bs) : JD K Kp (RZ.ItzT K a b) (pairD as bs) := fun H3 k => by
  obtain ⟨⟨h1, h2⟩, h3, h4⟩ := h H3 k
  refine ⟨⟨xs, ys, h1, h3, ?_⟩, fun i d e => ?_⟩
  · rw [pairD_len, dps_len h2, dps_len h4]
    omega
  · obtain ⟨p, q, e1, e2, rfl⟩ := pairD_at e
    obtain ⟨x, q1, q2⟩ := dps_get h2 e1
    obtain ⟨y, q3, q4⟩ := dps_get h4 e2
    refine ⟨⟨xs, ys, x, y, h1, h3, q1, q3⟩, ?_⟩
    rintro z H4 ⟨T, x', y', rfl, hT, rfl, f1, f2⟩
    have ex := f1 xs h1
    have ey := f2 ys h3
    rw [q1] at ex
    rw [q3] at ey
    cases ex
    cases ey
    exact ⟨Ex.new hT, dp_pair hT q2 q4⟩
theorem jd_zipL {a b : Addr} {xs ys : List V} {as bs : List PyData} {Kp : Hp → Prop} (h : ∀ H3, Kp H3 → (SqL K H3 a xs ∧ DpAll K H3 xs as) ∧ SqL K H3 b ys ∧ DpAll K H3 ys bs) : JD K Kp (Itz K a b) (pairD as bs) := fun H3 k => by
  obtain ⟨⟨h1, h2⟩, h3, h4⟩ := h H3 k
  refine ⟨⟨xs, ys, h1, h3, ?_⟩, fun i d e => ?_⟩
  · rw [pairD_len, dps_len h2, dps_len h4]
    omega
  · obtain ⟨p, q, e1, e2, rfl⟩ := pairD_at e
    obtain ⟨x, q1, q2⟩ := dps_get h2 e1
    obtain ⟨y, q3, q4⟩ := dps_get h4 e2
    refine ⟨⟨xs, ys, x, y, h1, h3, q1, q3⟩, ?_⟩
    rintro z H4 ⟨T, x', y', rfl, hT, rfl, f1, f2⟩
    have ex := f1 xs h1
    have ey := f2 ys h3
    rw [q1] at ex
    rw [q3] at ey
    cases ex
    cases ey
    exact ⟨Ex.new hT, dp_pair hT q2 q4⟩
theorem it_zipT {as bs : List PyData} (h : EDA K tr σ H [.tuple as, .tuple bs]) : IterD K (RZ.iZipA K tr) σ H (pairD as bs) := fun H1 e R r => h H1 e _ fun vs H2 e2 hv => by
  obtain ⟨x, y, rfl, hx, hy⟩ := dps2 hv
  obtain ⟨a, xs, rfl, h1, h2⟩ := dp_tup hx
  obtain ⟨b, ys, rfl, h3, h4⟩ := dp_tup hy
  exact ⟨a, b, xs, ys, rfl, .inr ⟨h1, h3, r _ (fun H3 => (SqT K H3 a xs ∧ DpAll K H3 xs as) ∧ SqT K H3 b ys ∧ DpAll K H3 ys bs) H2 e2 (fun H3 e3 => ⟨⟨ex_t e3 h1, h2.ex e3⟩, ex_t e3 h3, h4.ex e3⟩) (jd_zipT fun _ k => k)⟩⟩
theorem it_zipL {as bs : List PyData} (h : EDA K tr σ H [.list as, .list bs]) : IterD K (RZ.iZipA K tr) σ H (pairD as bs) := fun H1 e R r => h H1 e _ fun vs H2 e2 hv => by
  obtain ⟨x, y, rfl, hx, hy⟩ := dps2 hv
  obtain ⟨a, xs, rfl, h1, h2⟩ := dp_lst hx
  obtain ⟨b, ys, rfl, h3, h4⟩ := dp_lst hy
  exact ⟨a, b, xs, ys, rfl, .inl ⟨h1, h3, r _ (fun H3 => (SqL K H3 a xs ∧ DpAll K H3 xs as) ∧ SqL K H3 b ys ∧ DpAll K H3 ys bs) H2 e2 (fun H3 e3 => ⟨⟨ex_l e3 h1, h2.ex e3⟩, ex_l e3 h3, h4.ex e3⟩) (jd_zipL fun _ k => k)⟩⟩
/-- the signs of a text -/
def signD (z : Str) : List PyData := z.cps.toList.map fun c => .str ⟨#[c]⟩
theorem jd_zipST {z : Str} {b : Addr} {ys : List V} {bs : List PyData} {Kp : Hp → Prop} (h : ∀ H3, Kp H3 → SqT K H3 b ys ∧ DpAll K H3 ys bs) : JD K Kp (ItzST K z b) (pairD (signD z) bs) := fun H3 k => by
  obtain ⟨h3, h4⟩ := h H3 k
  have hz : (signD z).length = z.cps.size := by simp [signD]
  have hl := dps_len h4
  refine ⟨⟨ys, h3, ?_, ?_, ?_⟩, fun i d e => ?_⟩
  · rw [pairD_len]; omega
  · rw [pairD_len]; omega
  · rw [pairD_len]; omega
  · obtain ⟨p, q, e1, e2, rfl⟩ := pairD_at e
    obtain ⟨c, hc, rfl⟩ : ∃ c, z.cps[i]? = some c ∧ p = .str ⟨#[c]⟩ := by
      unfold signD at e1
      rw [List.getElem?_map, Array.getElem?_toList] at e1
      cases q : z.cps[i]? with
      | none => rw [q] at e1; cases e1
      | some c => rw [q] at e1; cases e1; exact ⟨c, rfl, rfl⟩
    obtain ⟨y, q3, q4⟩ := dps_get h4 e2
    refine ⟨⟨c, ys, y, h3, hc, q3⟩, ?_⟩
    rintro v H4 ⟨T, c', y', rfl, hT, rfl, f1, f2⟩
    have ey := f2 ys h3
    rw [hc] at f1
    rw [q3] at ey
    cases f1
    cases ey
    exact ⟨Ex.new hT, dp_pair hT (.str _) q4⟩
theorem it_zipST {z : Str} {bs : List PyData} (h : EDA K tr σ H [.str z, .tuple bs]) : IterD K (iZipST K tr) σ H (pairD (signD z) bs) := fun H1 e R r => h H1 e _ fun vs H2 e2 hv => by
  obtain ⟨x, y, rfl, hx, hy⟩ := dps2 hv
  obtain ⟨b, ys, rfl, h3, h4⟩ := dp_tup hy
  exact ⟨z, b, ys, by rw [dp_str hx], h3, r _ (fun H3 => SqT K H3 b ys ∧ DpAll K H3 ys bs) H2 e2 (fun H3 e3 => ⟨ex_t e3 h3, h4.ex e3⟩) (jd_zipST fun _ k => k)⟩
/-- numbered -/
def numD (n : Nat) : List PyData → List PyData
  | [] => []
  | d :: ds => .tuple [nD n, d] :: numD (n + 1) ds
theorem numD_len : ∀ (n : Nat) (ds : List PyData), (numD n ds).length = ds.length
  | _, [] => rfl
  | n, d :: ds => congrArg (· + 1) (numD_len (n + 1) ds)
theorem numD_at : ∀ {n : Nat} {ds : List PyData} {i : Nat} {d : PyData}, (numD n ds)[i]? = some d → ∃ a, ds[i]? = some a ∧ d = .tuple [nD (n + i), a]
  | _, [], _, _, h => by simp [numD] at h
  | n, a :: as, 0, d, h => by
    have h : PyData.tuple [nD n, a] = d := by simpa [numD] using h
    exact ⟨a, rfl, h.symm⟩
  | n, a :: as, i + 1, d, h => by
    obtain ⟨x, h1, h2⟩ := numD_at (n := n + 1) (ds := as) (i := i) (by simpa [numD] using h)
    exact ⟨x, by simpa using h1, by rw [h2, show n + 1 + i = n + (i + 1) by omega]⟩
theorem jd_enumT {a : Addr} {xs : List V} {ds : List PyData} {Kp : Hp → Prop} (h : ∀ H3, Kp H3 → SqT K H3 a xs ∧ DpAll K H3 xs ds) : JD K Kp (IteT K a) (numD 0 ds) := fun H3 k => by
  obtain ⟨h1, h2⟩ := h H3 k
  refine ⟨⟨xs, h1, by rw [numD_len, dps_len h2]⟩, fun i d e => ?_⟩
  obtain ⟨p, e1, rfl⟩ := numD_at e
  obtain ⟨x, q1, q2⟩ := dps_get h2 e1
  refine ⟨⟨xs, x, h1, q1⟩, ?_⟩
  rintro z H4 ⟨T, x', rfl, hT, rfl, f1⟩
  have ex := f1 xs h1
  rw [q1] at ex
  cases ex
  rw [Nat.zero_add]
  exact ⟨Ex.new hT, dp_pair hT (.int _) q2⟩
theorem jd_enumL {a : Addr} {xs : List V} {ds : List PyData} {Kp : Hp → Prop} (h : ∀ H3, Kp H3 → SqL K H3 a xs ∧ DpAll K H3 xs ds) : JD K Kp (Ite K a) (numD 0 ds) := fun H3 k => by
  obtain ⟨h1, h2⟩ := h H3 k
  refine ⟨⟨xs, h1, by rw [numD_len, dps_len h2]; exact Nat.le_refl _⟩, fun i d e => ?_⟩
  obtain ⟨p, e1, rfl⟩ := numD_at e
  obtain ⟨x, q1, q2⟩ := dps_get h2 e1
  refine ⟨⟨xs, x, h1, q1⟩, ?_⟩
  rintro z H4 ⟨T, x', rfl, hT, rfl, f1⟩
  have ex := f1 xs h1
  rw [q1] at ex
  cases ex
  rw [Nat.zero_add]
  exact ⟨Ex.new hT, dp_pair hT (.int _) q2⟩
theorem it_enumT {ds : List PyData} (h : EDA K tr σ H [.tuple ds]) : IterD K (iEnumT K tr) σ H (numD 0 ds) := fun H1 e R r => h H1 e _ fun vs H2 e2 hv => by
  obtain ⟨x, rfl, hx⟩ := dps1 hv
  obtain ⟨a, xs, rfl, h1, h2⟩ := dp_tup hx
  exact ⟨a, xs, rfl, h1, r _ (fun H3 => SqT K H3 a xs ∧ DpAll K H3 xs ds) H2 e2 (fun H3 e3 => ⟨ex_t e3 h1, h2.ex e3⟩) (jd_enumT fun _ k => k)⟩
/-- a pair is taken by two names -/
theorem tk_two {i j : Nat} {a b : PyData} {v : V} (h : Dp K H v (.tuple [a, b])) (σ : L2.St) : ∃ x y, Dp K H x a ∧ Dp K H y b ∧ Tk (gTup K 2 (gCons (gName i) (gCons (gName j) gNil))) v σ H ((σ.set i (some x)).set j (some y)) := by
  obtain ⟨p, xs, rfl, h1, h2⟩ := dp_tup h
  obtain ⟨x, y, rfl, hx, hy⟩ := dps2 h2
  exact ⟨x, y, hx, hy, fun Q q => ⟨p, _, rfl, h1, rfl, x, _, rfl, y, _, rfl, rfl, q⟩⟩
theorem tk_three {i j l : Nat} {a b c : PyData} {v : V} (h : Dp K H v (.tuple [a, b, c])) (σ : L2.St) : ∃ x y z, Dp K H x a ∧ Dp K H y b ∧ Dp K H z c ∧ Tk (gTup K 3 (gCons (gName i) (gCons (gName j) (gCons (gName l) gNil)))) v σ H (((σ.set i (some x)).set j (some y)).set l (some z)) := by
  obtain ⟨p, xs, rfl, h1, h2⟩ := dp_tup h
  obtain ⟨x, y, z, rfl, hx, hy, hz⟩ := dps3 h2
  exact ⟨x, y, z, hx, hy, hz, fun Q q => ⟨p, _, rfl, h1, rfl, x, _, rfl, y, _, rfl, z, _, rfl, rfl, q⟩⟩
theorem tk_one {i : Nat} {v : V} (σ : L2.St) : Tk (gName i) v σ H (σ.set i (some v)) := fun Q q => q
/-- no tests -/
theorem et_yes : EvT tYes σ H true := fun H1 _ _ q => q H1 (Ex.refl H1)
/-- an item of a written dict -/
theorem ed_kd {dF : Addr} {z : Str} {u0 : Value} {v0 : V} (ha : Ev ta σ H (.ref dF)) (hb : ED K tb σ H (.str z)) (e : PySem.W.nsIn K dF z = some (some u0)) (rv : RelV v0 u0) (hd : ∀ H1, Dp K H1 v0 d) : ED K (tOp (rKd K dF) ta tb) σ H d := fun H1 ee Q q =>
  ha H1 ee _ fun H2 e2 => hb H2 (ee.trans e2) _ fun y H3 e3 hy => ⟨z, u0, v0, rfl, dp_str hy, e, rv, q v0 H3 (e2.trans e3) (hd H3)⟩
end
end LW
namespace LW
open PySem PySem.Spec PyProof.Rows L2 Evl
open LB (Deed Lf P Hd)
/-! ### the shape of data: its depth, its texts -/
theorem lay_n (n : Nat) : (nD n).canLay0 = true := by simp [PyData.canLay0]
theorem layAll : ∀ {ds : List PyData}, (∀ d ∈ ds, d.canLay0 = true) → PyData.canLayAll0 ds = true
  | [], _ => by simp [PyData.canLayAll0]
  | d :: ds, h => by
    simp only [PyData.canLayAll0]
    rw [h d List.mem_cons_self, layAll fun e he => h e (List.mem_cons_of_mem _ he)]
    rfl
theorem depAll {n : Nat} : ∀ {ds : List PyData}, (∀ d ∈ ds, d.depth ≤ n) → PyData.depthAll ds ≤ n
  | [], _ => by simp [PyData.depthAll]
  | d :: ds, h => by
    simp only [PyData.depthAll]
    exact Nat.max_le.mpr ⟨h d List.mem_cons_self, depAll fun e he => h e (List.mem_cons_of_mem _ he)⟩
/-- depth at the most n, texts that can be laid -/
structure Sh (n : Nat) (d : PyData) : Prop where
  lay : d.canLay0 = true
  dep : d.depth ≤ n
theorem Sh.shaped {n : Nat} {d : PyData} (h : Sh n d) (hn : n ≤ 64 := by decide) : SeqAt.shaped d = true := by
  show (d.canLay0 && decide (d.depth ≤ 64)) = true
  rw [h.lay, decide_eq_true (Nat.le_trans h.dep hn)]
  rfl
theorem Sh.mono {m n : Nat} {d : PyData} (h : Sh m d) (hn : m ≤ n) : Sh n d := ⟨h.lay, Nat.le_trans h.dep hn⟩
theorem sh_int {i : Int} {n : Nat} : Sh n (.int i) := ⟨by simp [PyData.canLay0], by simp [PyData.depth]⟩
theorem sh_bool {i : Bool} {n : Nat} : Sh n (.bool i) := ⟨by simp [PyData.canLay0], by simp [PyData.depth]⟩
theorem sh_none {n : Nat} : Sh n .none := ⟨by simp [PyData.canLay0], by simp [PyData.depth]⟩
theorem sh_str {x : Str} {n : Nat} (h : PyData.strOk x = true) : Sh n (.str x) := ⟨by simp only [PyData.canLay0]; exact h, by simp [PyData.depth]⟩
theorem sh_tup {ds : List PyData} {n : Nat} (h : ∀ d ∈ ds, Sh n d) : Sh (n + 1) (.tuple ds) :=
  ⟨by simp only [PyData.canLay0]; exact layAll fun d hd => (h d hd).lay, by simp only [PyData.depth]; exact Nat.succ_le_succ (depAll fun d hd => (h d hd).dep)⟩
theorem sh_lst {ds : List PyData} {n : Nat} (h : ∀ d ∈ ds, Sh n d) : Sh (n + 1) (.list ds) :=
  ⟨by simp only [PyData.canLay0]; exact layAll fun d hd => (h d hd).lay, by simp only [PyData.depth]; exact Nat.succ_le_succ (depAll fun d hd => (h d hd).dep)⟩
theorem all_nil {p : PyData → Prop} : ∀ d ∈ ([] : List PyData), p d := fun _ m => nomatch m
theorem all_cons {p : PyData → Prop} {a : PyData} {r : List PyData} (h : p a) (hr : ∀ d ∈ r, p d) : ∀ d ∈ a :: r, p d := fun d m => by
  rcases List.mem_cons.mp m with rfl | m
  · exact h
  · exact hr d m
theorem all_map {α : Type} {p : PyData → Prop} {f : α → PyData} {l : List α} (h : ∀ a ∈ l, p (f a)) : ∀ d ∈ l.map f, p d := fun d m => by
  obtain ⟨a, ha, rfl⟩ := List.mem_map.mp m
  exact h a ha
theorem sh_ints {n : Nat} (l : List Int) : ∀ d ∈ l.map PyData.int, Sh n d := all_map fun _ _ => sh_int
theorem sh_nats {n : Nat} (l : List Nat) : ∀ d ∈ l.map nD, Sh n d := all_map fun _ _ => sh_int
theorem sh_path (p : List Nat) : Sh 1 (pathD p) := sh_tup (sh_nats p)
theorem strs_ok : ∀ x ∈ formList, PyData.strOk x.1 = true := by decide +kernel
def hdF : Hd → Str
  | .lf (.deed (.set _ _)) => "sn" | .lf (.deed (.copy _ _)) => "sr" | .lf (.deed (.op2 _ _ _ _)) => "srr" | .lf (.deed (.pick _ _ _ _)) => "srrr"
  | .lf (.take _ _ _) => "str" | .lf (.put _ _ _) => "trr" | .lf (.touch _ _) => "tr" | .lf (.tell _) => "r" | .lf (.idle _) => "m"
  | .ite _ _ _ => "raa" | .rnd _ _ => "ga" | .trn _ _ => "ra"
theorem form_in (h : Hd) : (hdN h, hdF h) ∈ formList := by
  have q : ∀ (i : Nat) (x : Str × Str), formList[i]? = some x → x ∈ formList := fun i x e => List.mem_of_getElem? e
  match h with
  | .lf (.deed (.set _ _)) => exact q 0 _ rfl
  | .lf (.deed (.copy _ _)) => exact q 1 _ rfl
  | .lf (.deed (.op2 .add _ _ _)) => exact q 2 _ rfl
  | .lf (.deed (.op2 .sub _ _ _)) => exact q 3 _ rfl
  | .lf (.deed (.op2 .less _ _ _)) => exact q 4 _ rfl
  | .lf (.deed (.op2 .same _ _ _)) => exact q 5 _ rfl
  | .lf (.deed (.op2 .mix _ _ _)) => exact q 6 _ rfl
  | .lf (.deed (.pick _ _ _ _)) => exact q 7 _ rfl
  | .lf (.deed (.op2 .times _ _ _)) => exact q 8 _ rfl
  | .lf (.deed (.op2 .parts _ _ _)) => exact q 9 _ rfl
  | .lf (.take _ _ _) => exact q 10 _ rfl
  | .lf (.put _ _ _) => exact q 11 _ rfl
  | .lf (.touch _ _) => exact q 12 _ rfl
  | .lf (.tell _) => exact q 13 _ rfl
  | .lf (.idle _) => exact q 14 _ rfl
  | .ite _ _ _ => exact q 15 _ rfl
  | .rnd _ _ => exact q 16 _ rfl
  | .trn _ _ => exact q 17 _ rfl
theorem sh_name (h : Hd) {n : Nat} : Sh n (.str (hdN h)) := sh_str (strs_ok _ (form_in h))
theorem sh_lf (x : Lf) : Sh 1 (.tuple (lfD x)) := by
  refine sh_tup ?_
  have hn : ∀ y, hdN (.lf x) = y → Sh 0 (.str y) := fun y e => e ▸ sh_name (.lf x)
  cases x with
  | deed d =>
    cases d <;> repeat first | exact all_nil | refine all_cons (hn _ rfl) ?_ | refine all_cons sh_int ?_
  | _ => repeat first | exact all_nil | refine all_cons (hn _ rfl) ?_ | refine all_cons sh_int ?_
theorem sh_prog : ∀ (p : P) {d : Nat}, p.ok d → ∀ e ∈ progD p, Sh (2 * d) e
  | .nil, _, _, _, m => nomatch m
  | .lf x r, d, ⟨h1, _, h3⟩, e, m => by
    rcases List.mem_cons.mp m with rfl | m
    · exact (sh_lf x).mono (by omega)
    · exact sh_prog r h3 e m
  | .ite c a b r, d, ⟨h1, _, h3, h4, h5⟩, e, m => by
    rcases List.mem_cons.mp m with rfl | m
    · refine Sh.mono (m := 2 * (d - 1) + 1 + 1) (sh_tup (all_cons (sh_name (.ite c a b)) (all_cons sh_int (all_cons (sh_tup (sh_prog a h3)) (all_cons (sh_tup (sh_prog b h4)) all_nil))))) (by omega)
    · exact sh_prog r h5 e m
  | .rnd n a r, d, ⟨h1, _, _, h3, h5⟩, e, m => by
    rcases List.mem_cons.mp m with rfl | m
    · refine Sh.mono (m := 2 * (d - 1) + 1 + 1) (sh_tup (all_cons (sh_name (.rnd n a)) (all_cons sh_int (all_cons (sh_tup (sh_prog a h3)) all_nil)))) (by omega)
    · exact sh_prog r h5 e m
  | .trn c a r, d, ⟨h1, _, h3, h5⟩, e, m => by
    rcases List.mem_cons.mp m with rfl | m
    · refine Sh.mono (m := 2 * (d - 1) + 1 + 1) (sh_tup (all_cons (sh_name (.trn c a)) (all_cons sh_int (all_cons (sh_tup (sh_prog a h3)) all_nil)))) (by omega)
    · exact sh_prog r h5 e m
theorem sh_hd {h : Hd} {d : Nat} (hd : h.ok d) (h1 : 1 ≤ d) : Sh (2 * d) (.tuple (hdD h)) := by
  cases h with
  | lf x => exact (sh_lf x).mono (by omega)
  | ite c a b =>
    obtain ⟨_, h3, h4⟩ := hd
    exact Sh.mono (m := 2 * (d - 1) + 1 + 1) (sh_tup (all_cons (sh_name (.ite c a b)) (all_cons sh_int (all_cons (sh_tup (sh_prog a h3)) (all_cons (sh_tup (sh_prog b h4)) all_nil))))) (by omega)
  | rnd n a =>
    obtain ⟨_, _, h3⟩ := hd
    exact Sh.mono (m := 2 * (d - 1) + 1 + 1) (sh_tup (all_cons (sh_name (.rnd n a)) (all_cons sh_int (all_cons (sh_tup (sh_prog a h3)) all_nil)))) (by omega)
  | trn c a =>
    obtain ⟨_, h3⟩ := hd
    exact Sh.mono (m := 2 * (d - 1) + 1 + 1) (sh_tup (all_cons (sh_name (.trn c a)) (all_cons sh_int (all_cons (sh_tup (sh_prog a h3)) all_nil)))) (by omega)
/-- the parts of a step, with their sorts -/
def partsD (h : Hd) : List PyData := pairD (signD (hdF h)) ((hdD h).drop 1)
theorem sg (z : Str) (l : List Str) (h : (z.cps.toList.map fun c => (⟨#[c]⟩ : Str)) = l) : signD z = l.map PyData.str := by
  rw [← h, List.map_map]
  rfl
theorem sg_sn : signD "sn" = [.str "s", .str "n"] := sg _ ["s", "n"] (by decide +kernel)
theorem sg_sr : signD "sr" = [.str "s", .str "r"] := sg _ ["s", "r"] (by decide +kernel)
theorem sg_srr : signD "srr" = [.str "s", .str "r", .str "r"] := sg _ ["s", "r", "r"] (by decide +kernel)
theorem sg_srrr : signD "srrr" = [.str "s", .str "r", .str "r", .str "r"] := sg _ ["s", "r", "r", "r"] (by decide +kernel)
theorem sg_str : signD "str" = [.str "s", .str "t", .str "r"] := sg _ ["s", "t", "r"] (by decide +kernel)
theorem sg_trr : signD "trr" = [.str "t", .str "r", .str "r"] := sg _ ["t", "r", "r"] (by decide +kernel)
theorem sg_tr : signD "tr" = [.str "t", .str "r"] := sg _ ["t", "r"] (by decide +kernel)
theorem sg_r : signD "r" = [.str "r"] := sg _ ["r"] (by decide +kernel)
theorem sg_m : signD "m" = [.str "m"] := sg _ ["m"] (by decide +kernel)
theorem sg_raa : signD "raa" = [.str "r", .str "a", .str "a"] := sg _ ["r", "a", "a"] (by decide +kernel)
theorem sg_ga : signD "ga" = [.str "g", .str "a"] := sg _ ["g", "a"] (by decide +kernel)
theorem sg_ra : signD "ra" = [.str "r", .str "a"] := sg _ ["r", "a"] (by decide +kernel)
/-- a pair of a sort and a part -/
def pr (s : Str) (d : PyData) : PyData := .tuple [.str s, d]
def hdP : Hd → List (Str × PyData)
  | .lf (.deed (.set b n)) => [("s", nD b), ("n", nD n)]
  | .lf (.deed (.copy b c)) => [("s", nD b), ("r", nD c)]
  | .lf (.deed (.op2 _ b c d)) => [("s", nD b), ("r", nD c), ("r", nD d)]
  | .lf (.deed (.pick b c d e)) => [("s", nD b), ("r", nD c), ("r", nD d), ("r", nD e)]
  | .lf (.take b t c) => [("s", nD b), ("t", nD t), ("r", nD c)]
  | .lf (.put t c d) => [("t", nD t), ("r", nD c), ("r", nD d)]
  | .lf (.touch t c) => [("t", nD t), ("r", nD c)]
  | .lf (.tell c) => [("r", nD c)]
  | .lf (.idle m) => [("m", nD m)]
  | .ite c a b => [("r", nD c), ("a", .tuple (progD a)), ("a", .tuple (progD b))]
  | .rnd n a => [("g", nD n), ("a", .tuple (progD a))]
  | .trn c a => [("r", nD c), ("a", .tuple (progD a))]
theorem partsD_eq (h : Hd) : partsD h = (hdP h).map fun p => pr p.1 p.2 := by
  unfold partsD
  cases h with
  | lf x =>
    cases x with
    | deed d =>
      cases d with
      | set b n => rw [show hdF (.lf (.deed (.set b n))) = "sn" from rfl, sg_sn]; rfl
      | copy b n => rw [show hdF (.lf (.deed (.copy b n))) = "sr" from rfl, sg_sr]; rfl
      | op2 o b c d => rw [show hdF (.lf (.deed (.op2 o b c d))) = "srr" from rfl, sg_srr]; rfl
      | pick b c d e => rw [show hdF (.lf (.deed (.pick b c d e))) = "srrr" from rfl, sg_srrr]; rfl
    | take b t c => rw [show hdF (.lf (.take b t c)) = "str" from rfl, sg_str]; rfl
    | put t c d => rw [show hdF (.lf (.put t c d)) = "trr" from rfl, sg_trr]; rfl
    | touch t c => rw [show hdF (.lf (.touch t c)) = "tr" from rfl, sg_tr]; rfl
    | tell c => rw [show hdF (.lf (.tell c)) = "r" from rfl, sg_r]; rfl
    | idle m => rw [show hdF (.lf (.idle m)) = "m" from rfl, sg_m]; rfl
  | ite c a b => rw [show hdF (.ite c a b) = "raa" from rfl, sg_raa]; rfl
  | rnd n a => rw [show hdF (.rnd n a) = "ga" from rfl, sg_ga]; rfl
  | trn c a => rw [show hdF (.trn c a) = "ra" from rfl, sg_ra]; rfl
/-- the parts of one sort -/
def partsOf (h : Hd) (s : Str) : List PyData := ((hdP h).filter fun p => decide (p.1 = s)).map (·.2)
theorem hdP_tdat (h : Hd) : ∀ p ∈ hdP h, tdat p.2 = true := by
  have q : ∀ (p : Str × PyData) (l : List (Str × PyData)), (l.all fun p => tdat p.2) = true → p ∈ l → tdat p.2 = true := fun p l e m => List.all_eq_true.mp e p m
  intro p hp
  refine q p _ ?_ hp
  cases h with
  | lf x =>
    cases x with
    | deed d => cases d <;> rfl
    | _ => rfl
  | ite c a b => simp [hdP, tdat_prog, tdat_n]
  | rnd c a => simp [hdP, tdat_prog, tdat_n]
  | trn c a => simp [hdP, tdat_prog, tdat_n]
end LW
namespace LW
open PySem PySem.Spec PyProof.Rows L2 Evl
open LB (Deed Lf P Hd)
section
variable {Pg : Program} {w : World} {K : PySem.W.Frag} {mg : Str → Option Value} {base : Heap} {dF dB aSt aOt aMm : Addr}
abbrev s_is_among : Stmt := top 24
theorem sc_is_among : FnScope ["thing", "least", "most"] ["thing", "least", "most"] (defScope s_is_among) := ⟨rfl, rfl, rfl, by decide +kernel, rfl, by decide +kernel, by decide +kernel⟩
def R_is_among (ds : List PyData) (d : PyData) : Prop := ∃ i lo hi : Int, ds = [.int i, .int lo, .int hi] ∧ d = .bool (decide (lo ≤ i) && decide (i ≤ hi))
theorem c_is_among (D : Df K mg "is_among" s_is_among ["thing", "least", "most"]) (T : Txt K mg w dF dB aSt aOt aMm) : Cl Pg w K mg base 1 "is_among" (spD K 3 R_is_among) := by
  refine D.cl sc_is_among (fun vs H Q E h => h.1) (fun f cdv A outer s H vs Q E hr h => ?_)
  refine ⟨_, (pss_one (ps_ret (pe_and (pe_callB call_isi (by rfl) T.n_isinstance (by decide +kernel) (pa_cons (pv 0) (pa_cons (pe_bltn (v := .ty "int") (by rfl) T.n_int (by decide +kernel) rfl) pa_nil))) (pe_and (pe_not (pe_callB call_isi (by rfl) T.n_isinstance (by decide +kernel) (pa_cons (pv 0) (pa_cons (pe_bltn (v := .ty "bool") (by rfl) T.n_bool (by decide +kernel) rfl) pa_nil)))) (pe_one (pe_chain op_le op_le (pv 1) (pv 0) (pv 2)))))))
    , ?_⟩
  obtain ⟨_, ds, d, hds, ⟨i, lo, hi, rfl, rfl⟩, k⟩ := h
  obtain ⟨x, y, z, rfl, h1, h2, h3⟩ := dps3 hds
  exact sd_ret (ed_and (ed_isi (ed_var rfl h1) kb_ii) fun _ => ed_and (ed_not (ed_isi (ed_var rfl h1) kb_ib)) fun _ => ed_chLe (ed_var rfl h2) (ed_var rfl h1) (ed_var rfl h3)) k
abbrev s_is_word : Stmt := top 25
theorem sc_is_word : FnScope ["thing"] ["thing"] (defScope s_is_word) := ⟨rfl, rfl, rfl, by decide +kernel, rfl, by decide +kernel, by decide +kernel⟩
def R_is_word (ds : List PyData) (d : PyData) : Prop := ∃ i : Int, ds = [.int i] ∧ d = .bool (decide (0 ≤ i) && decide (i ≤ 15))
theorem c_is_word (D : Df K mg "is_word" s_is_word ["thing"]) (T : Txt K mg w dF dB aSt aOt aMm) (c_is_among : Cl Pg w K mg base 1 "is_among" (spD K 3 R_is_among)) : Cl Pg w K mg base 2 "is_word" (spD K 1 R_is_word) := by
  refine D.cl sc_is_word (fun vs H Q E h => h.1) (fun f cdv A outer s H vs Q E hr h => ?_)
  refine ⟨_, (pss_one (ps_ret (pe_u c_is_among hr (by omega) rfl (pa_cons (pv 0) (pa_cons pe_int (pa_cons (pe_gc rfl T.g_MOST_WORD) pa_nil))))))
    , ?_⟩
  obtain ⟨_, ds, d, hds, ⟨i, rfl, rfl⟩, k⟩ := h
  obtain ⟨x, rfl, h1⟩ := dps1 hds
  exact sd_ret (ed_call (eda_cons (ed_var rfl h1) (eda_cons ed_int (eda_cons (ed_c (.int 15)) eda_nil))) ⟨i, 0, 15, rfl, rfl⟩) k
abbrev s_is_part : Stmt := top 26
theorem sc_is_part : FnScope ["sort", "thing"] ["sort", "thing"] (defScope s_is_part) := ⟨rfl, rfl, rfl, by decide +kernel, rfl, by decide +kernel, by decide +kernel⟩
def R_is_part (ds : List PyData) (d : PyData) : Prop := (∃ es, ds = [.str "a", .tuple es] ∧ d = .bool true) ∨ ∃ (s : Str) (lo hi i : Int), (s, lo, hi) ∈ boundList ∧ ds = [.str s, .int i] ∧ d = .bool (decide (lo ≤ i) && decide (i ≤ hi))
theorem not_a : ∀ {s : Str} {lo hi : Int}, (s, lo, hi) ∈ boundList → decide (s = ("a" : Str)) = false := by
  intro s lo hi h
  have q : ∀ x ∈ boundList, decide (x.1 = ("a" : Str)) = false := by decide +kernel
  exact q _ h
theorem c_is_part (D : Df K mg "is_part" s_is_part ["sort", "thing"]) (T : Txt K mg w dF dB aSt aOt aMm) (c_is_among : Cl Pg w K mg base 1 "is_among" (spD K 3 R_is_among)) : Cl Pg w K mg base 2 "is_part" (spD K 2 R_is_part) := by
  refine D.cl sc_is_part (fun vs H Q E h => h.1) (fun f cdv A outer s H vs Q E hr h => ?_)
  refine ⟨_, (pss_cons (ps_if (pt_cmpR op_eq (pv 0) (pe_gc rfl T.g_AN_ARM) (nomark _)) (pss_one (ps_ret (pe_callB call_isi (by rfl) T.n_isinstance (by decide +kernel) (pa_cons (pv 1) (pa_cons (pe_bltn (v := .ty "tuple") (by rfl) T.n_tuple (by decide +kernel) rfl) pa_nil))))) pss_nil)
    (pss_one (ps_ret (pe_u c_is_among hr (by omega) rfl (pa_cons (pv 1) (pa_cons (pe_ix ix_tup (pe_ix (ix_kdX T.BOUNDS) (pe_gc rfl T.g_BOUNDS) (pv 0) (fun _ _ => rfl)) pe_int (fun _ _ => rfl)) (pa_cons (pe_ix ix_tup (pe_ix (ix_kdX T.BOUNDS) (pe_gc rfl T.g_BOUNDS) (pv 0) (fun _ _ => rfl)) pe_int (fun _ _ => rfl)) pa_nil)))))))
    , ?_⟩
  obtain ⟨_, ds, d, hds, hR, k⟩ := h
  rcases hR with ⟨es, rfl, rfl⟩ | ⟨z, lo, hi, i, hz, rfl, rfl⟩
  · obtain ⟨x, y, rfl, h1, h2⟩ := dps2 hds
    refine q_yes (et_d (ed_eqS (ed_var rfl h1) (ed_c (.str "a")) (b := true) (by decide +kernel))) rfl fun H1 e1 => ?_
    exact sd_ret (ed_isi (ed_var rfl (h2.ex e1)) kb_tt) fun v H2 e2 => k v H2 (e1.trans e2)
  · obtain ⟨x, y, rfl, h1, h2⟩ := dps2 hds
    refine q_not (et_d (ed_eqS (ed_var rfl h1) (ed_c (.str "a")) (not_a hz))) rfl fun H1 e1 => ?_
    obtain ⟨a, ha, hk⟩ := T.bounds _ hz
    have hb : ∀ H1, Dp K H1 (.ref a) (.tuple [.int lo, .int hi]) := fun H1 => .tup hk.seq (.cons (.int lo) (.cons (.int hi) .nil))
    refine sd_ret (ed_call (eda_cons (ed_var rfl (h2.ex e1)) (eda_cons (ed_ixT (ed_kd ev_c (ed_var rfl (h1.ex e1)) ha (v0 := .ref a) rfl hb) ed_int rfl) (eda_cons (ed_ixT (ed_kd ev_c (ed_var rfl (h1.ex e1)) ha (v0 := .ref a) rfl hb) ed_int rfl) eda_nil))) ⟨i, lo, hi, rfl, rfl⟩) fun v H2 e2 => k v H2 (e1.trans e2)

abbrev s_has_form : Stmt := top 27
theorem sc_has_form : FnScope ["thing", "form", "sort", "part"] ["thing"] (defScope s_has_form) := ⟨rfl, rfl, rfl, by decide +kernel, rfl, by decide +kernel, by decide +kernel⟩
def R_has_form (ds : List PyData) (d : PyData) : Prop := ∃ (h : Hd) (n : Nat), ds = [.tuple (hdD h)] ∧ h.ok n ∧ 1 ≤ n ∧ n ≤ 8 ∧ d = .bool true
theorem part_ok {h : Hd} {n : Nat} (hk : h.ok n) : ∀ p ∈ hdP h, R_is_part [.str p.1, p.2] (.bool true) := by
  have q : ∀ (s : Str) (lo hi : Int) (i : Nat), (s, lo, hi) ∈ boundList → lo ≤ (i : Int) → (i : Int) ≤ hi → R_is_part [.str s, nD i] (.bool true) := fun s lo hi i m h1 h2 =>
    .inr ⟨s, lo, hi, i, m, rfl, by rw [decide_eq_true h1, decide_eq_true h2]; rfl⟩
  have mem : ∀ (j : Nat) (x : Str × Int × Int), boundList[j]? = some x → x ∈ boundList := fun j x e => List.mem_of_getElem? e
  have qs : ∀ i : Nat, i < 32 → R_is_part [.str "s", nD i] (.bool true) := fun i hi => q _ _ _ i (mem 0 _ rfl) (by omega) (by omega)
  have qr : ∀ i : Nat, i < 32 → R_is_part [.str "r", nD i] (.bool true) := fun i hi => q _ _ _ i (mem 1 _ rfl) (by omega) (by omega)
  have qn : ∀ i : Nat, i < 16 → R_is_part [.str "n", nD i] (.bool true) := fun i hi => q _ _ _ i (mem 2 _ rfl) (by omega) (by omega)
  have qt : ∀ i : Nat, i < 4 → R_is_part [.str "t", nD i] (.bool true) := fun i hi => q _ _ _ i (mem 3 _ rfl) (by omega) (by omega)
  have qm : ∀ i : Nat, 1 ≤ i → i ≤ 60 → R_is_part [.str "m", nD i] (.bool true) := fun i h1 hi => q _ _ _ i (mem 4 _ rfl) (by omega) (by omega)
  have qg : ∀ i : Nat, 1 ≤ i → i ≤ 15 → R_is_part [.str "g", nD i] (.bool true) := fun i h1 hi => q _ _ _ i (mem 5 _ rfl) (by omega) (by omega)
  have qa : ∀ es, R_is_part [.str "a", .tuple es] (.bool true) := fun es => .inl ⟨es, rfl, rfl⟩
  have an : ∀ p ∈ ([] : List (Str × PyData)), R_is_part [.str p.1, p.2] (.bool true) := fun _ m => nomatch m
  have ac : ∀ {s : Str} {d : PyData} {r : List (Str × PyData)}, R_is_part [.str s, d] (.bool true) → (∀ p ∈ r, R_is_part [.str p.1, p.2] (.bool true)) → ∀ p ∈ (s, d) :: r, R_is_part [.str p.1, p.2] (.bool true) := fun h hr p m => by
    rcases List.mem_cons.mp m with rfl | m
    · exact h
    · exact hr p m
  cases h with
  | lf x =>
    cases x with
    | deed d =>
      cases d with
      | set b n => obtain ⟨h1, h2⟩ := hk; exact ac (qs _ h1) (ac (qn _ h2) an)
      | copy b n => obtain ⟨h1, h2⟩ := hk; exact ac (qs _ h1) (ac (qr _ h2) an)
      | op2 o b c d => obtain ⟨h1, h2, h3⟩ := hk; exact ac (qs _ h1) (ac (qr _ h2) (ac (qr _ h3) an))
      | pick b c d e => obtain ⟨h1, h2, h3, h4⟩ := hk; exact ac (qs _ h1) (ac (qr _ h2) (ac (qr _ h3) (ac (qr _ h4) an)))
    | take b t c => obtain ⟨h1, h2, h3⟩ := hk; exact ac (qs _ h1) (ac (qt _ h2) (ac (qr _ h3) an))
    | put t c d => obtain ⟨h1, h2, h3⟩ := hk; exact ac (qt _ h1) (ac (qr _ h2) (ac (qr _ h3) an))
    | touch t c => obtain ⟨h1, h2⟩ := hk; exact ac (qt _ h1) (ac (qr _ h2) an)
    | tell c => exact ac (qr _ hk) an
    | idle m => obtain ⟨h1, h2⟩ := hk; exact ac (qm _ h1 h2) an
  | ite c a b => obtain ⟨h1, _⟩ := hk; exact ac (qr _ h1) (ac (qa _) (ac (qa _) an))
  | rnd n a => obtain ⟨h1, h2, _⟩ := hk; exact ac (qg _ h1 h2) (ac (qa _) an)
  | trn c a => obtain ⟨h1, _⟩ := hk; exact ac (qr _ h1) (ac (qa _) an)
theorem hd_len (h : Hd) : (hdD h).length = 1 + (hdF h).length := by
  cases h with
  | lf x =>
    cases x with
    | deed d => cases d <;> rfl
    | _ => rfl
  | _ => rfl
theorem hdF_len (h : Hd) : (hdF h).length ≤ 4 := by
  have q : ∀ x ∈ formList, x.2.length ≤ 4 := by decide +kernel
  exact q _ (form_in h)
theorem cut1 (ds : List PyData) (h : 1 ≤ ds.length) : cutD ds (some 1) none = ds.drop 1 := by
  unfold cutD
  rw [show HT.sIx ds.length 0 (some 1) = min 1 ds.length from HT.sIx_nat ds.length 0 1, Nat.min_eq_left h]
  show (ds.drop 1).take (ds.length - 1) = ds.drop 1
  rw [List.take_of_length_le (by rw [List.length_drop]; exact Nat.le_refl _)]
theorem hdD_at0 (h : Hd) : atI (hdD h) 0 = some (.str (hdN h)) := by
  obtain ⟨r, e⟩ := hdD_name h
  rw [e]
  exact atI_nat (j := 0) rfl
theorem c_has_form (D : Df K mg "has_form" s_has_form ["thing"]) (T : Txt K mg w dF dB aSt aOt aMm) (c_is_part : Cl Pg w K mg base 2 "is_part" (spD K 2 R_is_part)) : Cl Pg w K mg base 3 "has_form" (spD K 1 R_has_form) := by
  refine D.cl sc_has_form (fun vs H Q E h => h.1) (fun f cdv A outer s H vs Q E hr h => ?_)
  refine ⟨_, (pss_cons (ps_if (PW.pt (pw_or (pt_not (pt_val (pe_callB call_isi (by rfl) T.n_isinstance (by decide +kernel) (pa_cons (pv 0) (pa_cons (pe_bltn (v := .ty "tuple") (by rfl) T.n_tuple (by decide +kernel) rfl) pa_nil))))) (pw_or (pt_cmpR (op_eqD hr.units) (pv 0) (pe_tup pa_nil) (nomark _)) (pw_or (pt_not (pt_val (pe_callB call_isi (by rfl) T.n_isinstance (by decide +kernel) (pa_cons (pe_ix ix_tup (pv 0) pe_int (fun _ _ => rfl)) (pa_cons (pe_bltn (v := .ty "str") (by rfl) T.n_str (by decide +kernel) rfl) pa_nil))))) (pw_or1 (pt_cmpR (op_notIn_kdX T.FORMS) (pe_ix ix_tup (pv 0) pe_int (fun _ _ => rfl)) (pe_gc rfl T.g_FORMS) (by rfl))))))) (pss_one (ps_ret pe_bl)) pss_nil)
    (pss_cons (ps_set (i := 1) sc_has_form.nd rfl (Or.inl rfl) (pe_ix (ix_kdX T.FORMS) (pe_gc rfl T.g_FORMS) (pe_ix ix_tup (pv 0) pe_int (fun _ _ => rfl)) (fun _ _ => rfl)))
    (pss_one (ps_ret (pe_and (pe_cmpR op_eq (pe_callB call_len_seq (by rfl) T.n_len (by decide +kernel) (pa_cons (pv 0) pa_nil)) (pe_op op_add pe_int (pe_callB call_len_str (by rfl) T.n_len (by decide +kernel) (pa_cons (pv 1) pa_nil))) (nomark _)) (pe_one (pe_callB (cr_all rfl) (by rfl) T.n_all (by decide +kernel) (pa_cons (pe_lc (own := [("sort", 2), ("part", 3)]) (g := (gTup K 2 (gCons (gName 2) (gCons (gName 3) gNil)))) (tt := tYes) (by rfl) sc_has_form.nd (pi_zipST rfl T.n_zip (pa_cons (pv 1) (pa_cons (pe_slice sl_tupA (pv 0) (po_some pe_int) po_none) pa_nil))) (blkOk_by (own := [("sort", 2), ("part", 3)]) (N := ["thing", "form", "sort", "part"]) (sc := defScope s_has_form) (by decide +kernel)) (fun _ _ _ _ _ => (pg_tup rfl (pgs_cons (pg_name (i := 2) sc_has_form.nd rfl (Or.inl rfl)) (pgs_cons (pg_name (i := 3) sc_has_form.nd rfl (Or.inl rfl)) pgs_nil)))) (fun _ _ _ _ _ => pts_nil) (fun _ _ _ _ _ => (pe_u c_is_part hr (by omega) rfl (pa_cons (pv 2) (pa_cons (pv 3) pa_nil))))) pa_nil))))))))
    , ?_⟩
  obtain ⟨_, ds, d, hds, ⟨h, n, rfl, hk, hn, hn8, rfl⟩, k⟩ := h
  obtain ⟨x, rfl, h1⟩ := dps1 hds
  obtain ⟨tk, hf⟩ := T.forms _ (form_in h)
  have hl1 : 1 ≤ (hdD h).length := by rw [hd_len]; omega
  have nm : ∀ {H1 : Hp}, Ex H H1 → ED K (tOp (rIxT K) (tVar 0) (tC (.int 0))) (start ["thing", "form", "sort", "part"] [x]) H1 (.str (hdN h)) := fun e => ed_ixT (ed_var rfl (h1.ex e)) ed_int (hdD_at0 h)
  have t1 : ∀ {H1 : Hp}, Ex H H1 → EvT (tTest (tOp (rNotKd K dF) (tOp (rIxT K) (tVar 0) (tC (.int 0))) (tC (.ref dF)))) (start ["thing", "form", "sort", "part"] [x]) H1 false := fun e => et_test (ev_op (ev_edS (nm e)) ev_c fun H2 e2 Q q => ⟨hdN h, _, rfl, rfl, hf, q H2 (Ex.refl _)⟩)
  refine q_not (b := false) (et_or (a := false) (et_not (a := true) (et_dB (ed_isi (ed_var rfl h1) kb_tt))) fun _ => et_or (a := false) (b := false) ?_ fun _ => et_or (a := false) (et_not (a := true) (et_dB (ed_isi (nm (Ex.refl H)) kb_ss))) fun _ => t1 (Ex.refl H)) rfl fun H1 e1 => ?_
  · refine et_is (et_d (ed_eqD (ed_var rfl h1) (ed_tup eda_nil (by decide)) ((sh_hd hk hn).shaped (by omega)) ((sh_tup (n := 0) all_nil).shaped))) ?_
    obtain ⟨r, e⟩ := hdD_name h
    rw [e]
    simp [PyData.eqv, PyData.eqvAll]
  refine qd_asg (ed_kd ev_c (nm e1) hf (v0 := .str (hdF h)) ⟨tk, rfl⟩ fun _ => .str _) fun v H2 e2 hv => ?_
  obtain rfl := dp_str hv
  have h2 := h1.ex (e1.trans e2)
  refine sd_ret (d := .bool true) (ed_is (ed_and (a := true) (b := true) ?_ fun _ => ?_) rfl) fun v H3 e3 => k v H3 ((e1.trans e2).trans e3)
  · refine ed_is (ed_eqI (ed_lenT (ed_var rfl h2)) (ed_add ed_int (ed_lenS (ed_var rfl hv) (Nat.le_trans (hdF_len h) (by decide))))) (congrArg PyData.bool (decide_eq_true ?_))
    rw [hd_len h]
    omega
  · have hpairs : pairD (signD (hdF h)) (cutD (hdD h) (some 1) none) = (hdP h).map fun p => pr p.1 p.2 := by
      rw [cut1 _ hl1]
      exact partsD_eq h
    have hit := it_zipST (σ := (start ["thing", "form", "sort", "part"] [x]).set 1 (some (.str (hdF h)))) (eda_cons (ed_var (i := 1) rfl hv) (eda_cons (ed_slT (ed_var (i := 0) rfl h2) (eo_c (i := 1)) eo_none) eda_nil))
    rw [hpairs] at hit
    have hlc := edl_lc (g := gTup K 2 (gCons (gName 2) (gCons (gName 3) gNil))) (tt := tYes) (vs := [2, 3]) (te := tCall (spD K 2 R_is_part) [] E0 (tCons (tVar 2) (tCons (tVar 3) tNil))) (fun _ => true) (fun _ => PyData.bool true) hit (by
      rw [List.length_map]
      have := congrArg List.length hpairs
      rw [pairD_len, List.length_map] at this
      have h4 := hdF_len h
      have h5 : (signD (hdF h)).length = (hdF h).length := by simp [signD, Str.length]
      omega) (fun _ _ _ => rfl) (fun i d v H3 e3 hi hd => by
      rw [List.getElem?_map] at hi
      obtain ⟨p, hp, rfl⟩ : ∃ p, (hdP h)[i]? = some p ∧ d = pr p.1 p.2 := by
        cases q : (hdP h)[i]? with
        | none => rw [q] at hi; cases hi
        | some p => rw [q] at hi; cases hi; exact ⟨p, rfl, rfl⟩
      obtain ⟨a, b, ha, hb, ht⟩ := tk_two (i := 2) (j := 3) hd (wipe ((start ["thing", "form", "sort", "part"] [x]).set 1 (some (.str (hdF h)))) [2, 3])
      exact ⟨_, ht, rfl, et_yes, fun _ => ed_call (eda_cons (ed_var rfl ha) (eda_cons (ed_var rfl hb) eda_nil)) (part_ok hk p (List.mem_of_getElem? hp))⟩)
    have hall := ed_all (bs := ((hdP h).map fun p => pr p.1 p.2).map fun _ => true) (by
      rw [List.map_map]
      rw [List.filter_eq_self.mpr (fun _ _ => rfl)] at hlc
      exact hlc)
    refine ed_is hall (congrArg PyData.bool ?_)
    rw [List.all_map]
    exact List.all_eq_true.mpr fun _ _ => rfl
abbrev s_parts_of : Stmt := top 28
theorem sc_parts_of : FnScope ["step", "sort", "own", "part"] ["step", "sort"] (defScope s_parts_of) := ⟨rfl, rfl, rfl, by decide +kernel, rfl, by decide +kernel, by decide +kernel⟩
def R_parts_of (ds : List PyData) (d : PyData) : Prop := ∃ (h : Hd) (z : Str), ds = [.tuple (hdD h), .str z] ∧ d = .tuple (partsOf h z)
def sortIs (z : Str) : PyData → Bool
  | .tuple [.str s, _] => decide (s = z)
  | _ => false
def partIs : PyData → PyData
  | .tuple [.str _, p] => p
  | d => d
theorem partsOf_eq (h : Hd) (z : Str) : (((hdP h).map fun p => pr p.1 p.2).filter (sortIs z)).map partIs = partsOf h z := by
  unfold partsOf
  generalize hdP h = l
  induction l with
  | nil => rfl
  | cons p r ih =>
    rw [List.map_cons, List.filter_cons, List.filter_cons]
    show (if decide (p.1 = z) = true then _ else _ : List PyData).map partIs = _
    by_cases e : p.1 = z
    · rw [if_pos (decide_eq_true e), if_pos (decide_eq_true e), List.map_cons, List.map_cons, ih]
      rfl
    · rw [if_neg (by simp [e]), if_neg (by simp [e]), ih]
theorem hdP_len (h : Hd) : (hdP h).length ≤ 4 := by
  cases h with
  | lf x =>
    cases x with
    | deed d => cases d <;> exact Nat.le_of_ble_eq_true rfl
    | _ => exact Nat.le_of_ble_eq_true rfl
  | _ => exact Nat.le_of_ble_eq_true rfl
theorem c_parts_of (D : Df K mg "parts_of" s_parts_of ["step", "sort"]) (T : Txt K mg w dF dB aSt aOt aMm) : Cl Pg w K mg base 1 "parts_of" (spD K 2 R_parts_of) := by
  refine D.cl sc_parts_of (fun vs H Q E h => h.1) (fun f cdv A outer s H vs Q E hr h => ?_)
  refine ⟨_, (pss_one (ps_ret (pe_tupleOf rfl T.n_tuple (pe_lc (own := [("own", 2), ("part", 3)]) (g := (gTup K 2 (gCons (gName 2) (gCons (gName 3) gNil)))) (by rfl) sc_parts_of.nd (pi_zipST rfl T.n_zip (pa_cons (pe_ix (ix_kdX T.FORMS) (pe_gc rfl T.g_FORMS) (pe_ix ix_tup (pv 0) pe_int (fun _ _ => rfl)) (fun _ _ => rfl)) (pa_cons (pe_slice sl_tupA (pv 0) (po_some pe_int) po_none) pa_nil))) (blkOk_by (own := [("own", 2), ("part", 3)]) (N := ["step", "sort", "own", "part"]) (sc := defScope s_parts_of) (by decide +kernel)) (fun _ _ _ _ _ => (pg_tup rfl (pgs_cons (pg_name (i := 2) sc_parts_of.nd rfl (Or.inl rfl)) (pgs_cons (pg_name (i := 3) sc_parts_of.nd rfl (Or.inl rfl)) pgs_nil)))) (fun _ _ _ _ _ => (pts_one (pt_cmpR op_eq (pv 2) (pv 1) (nomark _)))) (fun _ _ _ _ _ => (pv 3))))))
    , ?_⟩
  obtain ⟨_, ds, d, hds, ⟨h, z, rfl, rfl⟩, k⟩ := h
  obtain ⟨x, y, rfl, h1, h2⟩ := dps2 hds
  obtain rfl := dp_str h2
  obtain ⟨tk, hf⟩ := T.forms _ (form_in h)
  have hl1 : 1 ≤ (hdD h).length := by rw [hd_len]; omega
  have hpairs : pairD (signD (hdF h)) (cutD (hdD h) (some 1) none) = (hdP h).map fun p => pr p.1 p.2 := by
    rw [cut1 _ hl1]
    exact partsD_eq h
  have hit := it_zipST (K := K) (σ := start ["step", "sort", "own", "part"] [x, .str z]) (H := H) (eda_cons (ed_kd (ev_c (v := .ref dF)) (ed_ixT (ed_var (i := 0) rfl h1) (ed_int (i := 0)) (hdD_at0 h)) hf (v0 := .str (hdF h)) ⟨tk, rfl⟩ fun _ => .str _) (eda_cons (ed_slT (ed_var (i := 0) rfl h1) (eo_c (i := 1)) eo_none) eda_nil))
  rw [hpairs] at hit
  refine sd_ret (ed_tupOf ?_) k
  rw [← partsOf_eq]
  refine edl_lc (sortIs z) partIs hit (by rw [List.length_map]; exact Nat.lt_of_le_of_lt (hdP_len h) (by decide)) (fun d hd _ => ?_) (fun i d v H3 e3 hi hd => ?_)
  · obtain ⟨p, hp, rfl⟩ := List.mem_map.mp hd
    exact hdP_tdat h p hp
  · rw [List.getElem?_map] at hi
    obtain ⟨p, hp, rfl⟩ : ∃ p, (hdP h)[i]? = some p ∧ d = pr p.1 p.2 := by
      cases q : (hdP h)[i]? with
      | none => rw [q] at hi; cases hi
      | some p => rw [q] at hi; cases hi; exact ⟨p, rfl, rfl⟩
    obtain ⟨a, b, ha, hb, ht⟩ := tk_two (i := 2) (j := 3) hd (wipe (start ["step", "sort", "own", "part"] [x, .str z]) [2, 3])
    exact ⟨_, ht, rfl, et_d (ed_eqS (ed_var rfl ha) (ed_var rfl (h2.ex e3)) rfl), fun _ => ed_var rfl hb⟩
abbrev s_arms_of : Stmt := top 29
theorem sc_arms_of : FnScope ["step"] ["step"] (defScope s_arms_of) := ⟨rfl, rfl, rfl, by decide +kernel, rfl, by decide +kernel, by decide +kernel⟩
def R_arms_of (ds : List PyData) (d : PyData) : Prop := ∃ h : Hd, ds = [.tuple (hdD h)] ∧ d = .tuple (partsOf h "a")
theorem c_arms_of (D : Df K mg "arms_of" s_arms_of ["step"]) (T : Txt K mg w dF dB aSt aOt aMm) (c_parts_of : Cl Pg w K mg base 1 "parts_of" (spD K 2 R_parts_of)) : Cl Pg w K mg base 2 "arms_of" (spD K 1 R_arms_of) := by
  refine D.cl sc_arms_of (fun vs H Q E h => h.1) (fun f cdv A outer s H vs Q E hr h => ?_)
  refine ⟨_, (pss_one (ps_ret (pe_u c_parts_of hr (by omega) rfl (pa_cons (pv 0) (pa_cons (pe_gc rfl T.g_AN_ARM) pa_nil)))))
    , ?_⟩
  obtain ⟨_, ds, d, hds, ⟨h, rfl, rfl⟩, k⟩ := h
  obtain ⟨x, rfl, h1⟩ := dps1 hds
  exact sd_ret (ed_call (eda_cons (ed_var rfl h1) (eda_cons (ed_c (.str "a")) eda_nil)) ⟨h, "a", rfl, rfl⟩) k
abbrev s_reads : Stmt := top 30
theorem sc_reads : FnScope ["step"] ["step"] (defScope s_reads) := ⟨rfl, rfl, rfl, by decide +kernel, rfl, by decide +kernel, by decide +kernel⟩
def R_reads (ds : List PyData) (d : PyData) : Prop := ∃ h : Hd, ds = [.tuple (hdD h)] ∧ d = .tuple (partsOf h "r")
theorem c_reads (D : Df K mg "reads" s_reads ["step"]) (T : Txt K mg w dF dB aSt aOt aMm) (c_parts_of : Cl Pg w K mg base 1 "parts_of" (spD K 2 R_parts_of)) : Cl Pg w K mg base 2 "reads" (spD K 1 R_reads) := by
  refine D.cl sc_reads (fun vs H Q E h => h.1) (fun f cdv A outer s H vs Q E hr h => ?_)
  refine ⟨_, (pss_one (ps_ret (pe_u c_parts_of hr (by omega) rfl (pa_cons (pv 0) (pa_cons (pe_gc rfl T.g_READ_BOX) pa_nil)))))
    , ?_⟩
  obtain ⟨_, ds, d, hds, ⟨h, rfl, rfl⟩, k⟩ := h
  obtain ⟨x, rfl, h1⟩ := dps1 hds
  exact sd_ret (ed_call (eda_cons (ed_var rfl h1) (eda_cons (ed_c (.str "r")) eda_nil)) ⟨h, "r", rfl, rfl⟩) k
end
end LW
namespace LW
open PySem PySem.Spec PyProof.Rows L2 Evl
open LB (Deed Lf P Hd)
/-! ### entries: a path and a step -/
def ents (A : List Nat) : Nat → List Hd → List (List Nat × Hd)
  | _, [] => []
  | k, h :: r => (A ++ [k], h) :: ents A (k + 1) r
def entD (e : List Nat × Hd) : PyData := .tuple [pathD e.1, .tuple (hdD e.2)]
def addPath (A : List Nat) : PyData → PyData
  | .tuple [.int n, s] => .tuple [.tuple (A.map nD ++ [.int n]), s]
  | d => d
theorem pathD_add (A : List Nat) (k : Nat) : pathD (A ++ [k]) = .tuple (A.map nD ++ [nD k]) := by unfold pathD; rw [List.map_append]; rfl
theorem ents_num (A : List Nat) : ∀ (k : Nat) (hs : List Hd), (numD k (hs.map fun h => PyData.tuple (hdD h))).map (addPath A) = (ents A k hs).map entD
  | _, [] => rfl
  | k, h :: r => by
    show addPath A (.tuple [nD k, .tuple (hdD h)]) :: (numD (k + 1) (r.map fun h => PyData.tuple (hdD h))).map (addPath A) = entD (A ++ [k], h) :: (ents A (k + 1) r).map entD
    rw [ents_num A (k + 1) r]
    unfold entD
    rw [pathD_add]
    rfl
theorem ents_len (A : List Nat) : ∀ (k : Nat) (hs : List Hd), (ents A k hs).length = hs.length
  | _, [] => rfl
  | k, h :: r => congrArg (· + 1) (ents_len A (k + 1) r)
theorem ents_mem {A : List Nat} : ∀ {k : Nat} {hs : List Hd} {e : List Nat × Hd}, e ∈ ents A k hs → e.2 ∈ hs ∧ e.1.length = A.length + 1
  | _, [], _, m => nomatch m
  | k, h :: r, e, m => by
    rcases List.mem_cons.mp m with rfl | m
    · exact ⟨List.mem_cons_self, by simp⟩
    · obtain ⟨a, b⟩ := ents_mem m
      exact ⟨List.mem_cons_of_mem _ a, b⟩
theorem tdat_ent (e : List Nat × Hd) : tdat (entD e) = true := by
  have h1 := tdat_hd e.2
  unfold entD
  unfold tdat
  unfold tdats
  rw [tdat_path]
  unfold tdats
  rw [h1]
  rfl
section
variable {K : PySem.W.Frag} {σ : L2.St} {H : Hp} {ta : TE}
theorem edl_rev {ds : List PyData} (h : ED K ta σ H (.list ds)) : EDL K (tRevL K ta) σ H ds.reverse := fun H1 e Q q =>
  h H1 e _ fun x H2 e2 hx => by
    obtain ⟨p, xs, rfl, hs, hxs⟩ := dp_lst hx
    exact ⟨p, xs, rfl, hs, fun t ht => q _ _ _ (fresh_back e2 ht) (e2.trans (Ex.new ht)) upd_same ((dps_rev hxs).ex (Ex.new ht))⟩
end
theorem cutTo (ds : List PyData) {n : Nat} (h : ds.length ≤ n) : cutD ds none (some (n : Int)) = ds := by
  unfold cutD
  rw [show HT.sIx ds.length ds.length (some (n : Int)) = min n ds.length from HT.sIx_nat _ _ n, Nat.min_eq_right h]
  show (ds.drop 0).take (ds.length - 0) = ds
  rw [List.drop_zero, Nat.sub_zero, List.take_length]
section
variable {Pg : Program} {w : World} {K : PySem.W.Frag} {mg : Str → Option Value} {base : Heap} {dF dB aSt aOt aMm : Addr}
abbrev s_with_paths : Stmt := top 31
theorem sc_with_paths : FnScope ["steps", "ahead", "found", "number", "step"] ["steps", "ahead"] (defScope s_with_paths) := ⟨rfl, rfl, rfl, by decide +kernel, rfl, by decide +kernel, by decide +kernel⟩
def R_with_paths (ds : List PyData) (es : List PyData) : Prop := ∃ (p : P) (A : List Nat), ds = [.tuple (progD p), pathD A] ∧ p.len ≤ 400 ∧ A.length ≤ 100 ∧ es = ((ents A 0 p.heads).map entD).reverse
theorem c_with_paths (D : Df K mg "with_paths" s_with_paths ["steps", "ahead"]) (T : Txt K mg w dF dB aSt aOt aMm) : Cl Pg w K mg base 1 "with_paths" (spDL K 2 R_with_paths) := by
  refine D.cl sc_with_paths (fun vs H Q E h => h.1) (fun f cdv A outer s H vs Q E hr h => ?_)
  refine ⟨_, (pss_cons (ps_setLc (i := 2) (own := [("number", 3), ("step", 4)]) (g := (gTup K 2 (gCons (gName 3) (gCons (gName 4) gNil)))) (tt := tYes) (by rfl) sc_with_paths.nd rfl rfl (sw_true rfl rfl rfl (by decide +kernel)) (pi_enumT rfl T.n_enumerate (pa_cons (pe_slice sl_tupA (pv 0) po_none (po_some (pe_op op_add (pe_gc rfl T.g_MOST_STEPS) pe_int))) pa_nil)) (blkOk_by (own := [("number", 3), ("step", 4)]) (N := ["steps", "ahead", "found", "number", "step"]) (sc := defScope s_with_paths) (by decide +kernel)) (fun _ _ _ _ _ => (pg_tup rfl (pgs_cons (pg_name (i := 3) sc_with_paths.nd rfl (Or.inl rfl)) (pgs_cons (pg_name (i := 4) sc_with_paths.nd rfl (Or.inl rfl)) pgs_nil)))) (fun _ _ _ _ _ => pts_nil) (fun _ _ _ _ _ => (pe_tup (pa_cons (pe_op (op_catAK K) (pv 1) (pe_tup (pa_cons (pv 3) pa_nil))) (pa_cons (pv 4) pa_nil)))))
    (pss_one (ps_ret (pe_revL (pv 2)))))
    , ?_⟩
  obtain ⟨_, ds, es, hds, ⟨p, B, rfl, hp, hB, rfl⟩, k⟩ := h
  obtain ⟨x, y, rfl, h1, h2⟩ := dps2 hds
  have hlen : (progD p).length ≤ 401 := by rw [progD_len]; omega
  have hit : IterD K (iEnumT K (tCons (tSl (rSlA K) (tVar 0) tNoPart (tPart (tOp (rI0 fun i j => .int (i + j)) (tC (.int 400)) (tC (.int 1))))) tNil)) (start ["steps", "ahead", "found", "number", "step"] [x, y]) H (numD 0 (progD p)) := by
    have q := it_enumT (K := K) (σ := start ["steps", "ahead", "found", "number", "step"] [x, y]) (H := H) (eda_cons (ed_slT (ed_var (i := 0) rfl h1) eo_none (eo_d (ed_add (K := K) (ed_int (i := 400)) (ed_int (i := 1))))) eda_nil)
    rw [show ((400 : Int) + 1) = ((401 : Nat) : Int) from rfl, cutTo _ hlen] at q
    exact q
  refine qd_asgL (K := K) (ds := (ents B 0 p.heads).map entD) ?_ fun l xs H1 hl e1 hx1 hxs => ?_
  · rw [← ents_num, ← progD_heads]
    have q := edl_lc (g := gTup K 2 (gCons (gName 3) (gCons (gName 4) gNil))) (tt := tYes) (vs := [3, 4]) (te := tTup (tCons (tOp (rCatA K) (tVar 1) (tTup (tCons (tVar 3) tNil))) (tCons (tVar 4) tNil))) (fun _ => true) (addPath B) hit (by rw [numD_len]; omega) (fun d hd _ => ?_) (fun i d v H3 e3 hi hd => ?_)
    · rw [List.filter_eq_self.mpr (fun _ _ => rfl)] at q
      exact q
    · obtain ⟨j, hj⟩ := List.getElem?_of_mem hd
      obtain ⟨a, ha, rfl⟩ := numD_at hj
      have ta := tdats_mem (tdats_prog p) a (List.mem_of_getElem? ha)
      rw [progD_heads, List.getElem?_map] at ha
      simp only [addPath, tdat, tdats]
      rw [ta]
      have : tdats (B.map nD ++ [nD (0 + j)]) = true := tdats_all fun d hd => by
        rcases List.mem_append.mp hd with hd | hd
        · exact tdats_mem (tdats_n B) d hd
        · rw [List.mem_singleton.mp hd]; rfl
      rw [this]
      rfl
    · obtain ⟨a, ha, rfl⟩ := numD_at hi
      obtain ⟨u, z, hu, hz, ht⟩ := tk_two (i := 3) (j := 4) hd (wipe (start ["steps", "ahead", "found", "number", "step"] [x, y]) [3, 4])
      refine ⟨_, ht, rfl, et_yes, fun _ => ?_⟩
      exact ed_tup (eda_cons (ed_catT (ed_var (i := 1) rfl (h2.ex e3)) (ed_tup (eda_cons (ed_var (i := 3) rfl hu) eda_nil) (Nat.le_of_ble_eq_true rfl)) (by rw [List.length_map]; show B.length + 1 ≤ _; omega)) (eda_cons (ed_var (i := 4) rfl hz) eda_nil)) (Nat.le_of_ble_eq_true rfl)
  · exact sd_retL (edl_rev (ed_var (i := 2) rfl (.lst (sq_of hx1) hxs))) fun p ys H2 hp e2 hy hys => k p ys H2 (fresh_back e1 hp) (e1.trans e2) hy hys
end
end LW
namespace LW
open PySem PySem.Spec PyProof.Rows L2 Evl
open LB (Deed Lf P Hd)
section
variable {K : PySem.W.Frag} {σ : L2.St} {H : Hp} {D : Ends} {ta te : TE} {l : Addr} {xs : List V} {d : PyData} {ds es : List PyData}
theorem sd_extend (hl : H l = some (.lst xs)) (ha : Ev ta σ H (.ref l)) (h : EDL K te σ H es) (hz : xs.length + es.length ≤ 100000) (k : ∀ ys H1, Ex H H1 → DpAll K H1 ys es → D.nx σ (upd H1 l (.lst (xs ++ ys)))) :
    tDrop (tBM K "list" rExtend ta (tCons te tNil)) D σ H := ha H (Ex.refl H) _ fun H1 e1 =>
  ⟨Or.inl ⟨rfl, xs, sq_of (e1 l _ hl)⟩, h H1 e1 _ fun p ys H2 hp e2 h2 h3 => ⟨l, p, xs, ys, rfl, rfl, e2 l _ (e1 l _ hl), h2, sz_of (by rw [dps_len h3]; exact hz), k ys H2 (e1.trans e2) h3⟩⟩
theorem sd_append (hl : H l = some (.lst xs)) (ha : Ev ta σ H (.ref l)) (h : ED K te σ H d) (hz : xs.length < 100000) (k : ∀ y H1, Ex H H1 → Dp K H1 y d → D.nx σ (upd H1 l (.lst (xs ++ [y])))) :
    tDrop (tBM K "list" rAppend ta (tCons te tNil)) D σ H := ha H (Ex.refl H) _ fun H1 e1 =>
  ⟨Or.inl ⟨rfl, xs, sq_of (e1 l _ hl)⟩, h H1 e1 _ fun y H2 e2 h3 => ⟨l, xs, y, rfl, rfl, e2 l _ (e1 l _ hl), sz_lt hz, k y H2 (e1.trans e2) h3⟩⟩
theorem dps_snoc : ∀ {vs : List V} {ds : List PyData} {d : PyData}, DpAll K H vs (ds ++ [d]) → ∃ us v, vs = us ++ [v] ∧ DpAll K H us ds ∧ Dp K H v d
  | _, [], d, h => by
    cases h with
    | cons h1 h2 => cases h2; exact ⟨[], _, rfl, .nil, h1⟩
  | _, c :: ds, d, h => by
    cases h with
    | cons h1 h2 =>
      obtain ⟨us, v, rfl, q1, q2⟩ := dps_snoc h2
      exact ⟨_ :: us, v, rfl, .cons h1 q1, q2⟩
/-- a list's mutation beside data without lists -/
theorem dps_mut {vs : List V} (h : DpAll K H vs ds) (z : tdats ds = true) {o : HO} (hl : H l = some (.lst xs)) : DpAll K (upd H l o) vs ds := h.tx ((Tx.refl H).upd (.lst hl)) z
theorem dp_mut {v : V} (h : Dp K H v d) (z : tdat d = true) {o : HO} (hl : H l = some (.lst xs)) : Dp K (upd H l o) v d := h.tx ((Tx.refl H).upd (.lst hl)) z
end
theorem ed_neg {K : PySem.W.Frag} {σ : L2.St} {H : Hp} {ta : TE} {i : Int} (ha : ED K ta σ H (.int i)) : ED K (tUn (rU fun i => .int (-i)) ta) σ H (.int (-i)) := fun H1 e Q q =>
  ha H1 e _ fun x H2 e2 hx => ⟨i, dp_int hx, q _ H2 e2 (.int _)⟩
theorem RgC_neg' {i j : Int} {n : Nat} (ha : -(2 ^ 62) ≤ i) (ha' : i < 2 ^ 62) (hb : -(2 ^ 62) ≤ j) (hb' : j < 2 ^ 62) (hn : (i - j).toNat = n) : RgC i j (-1) n := hn ▸ RgC.neg ha ha' hb hb'
theorem s_for3 {K : PySem.W.Frag} {σ : L2.St} {H : Hp} {D : Ends} {tu : TS} {g : TG} {tr : TA} {i j c : Int} {n : Nat} (q : EDA K tr σ H [.int i, .int j, .int c]) (hr : RgC i j c n) (Pv : Nat → L2.St → Hp → Prop) (h0 : ∀ H1, Ex H H1 → Pv 0 σ H1)
    (hs : ∀ k σ' H', k < n → Pv k σ' H' → g (.int (i + (k : Nat) * c)) σ' H' fun σ2 H2 => tu { D with nx := Pv (k + 1), ct := Pv (k + 1), bk := D.nx } σ2 H2) (hd : ∀ σ' H', Pv n σ' H' → D.nx σ' H') : tFor (iRng3 tr) g tu D σ H :=
  q H (Ex.refl H) _ fun vs H1 e1 hv => by
    obtain ⟨v1, v2, v3, rfl, w1, w2, w3⟩ := dps3 hv
    have ev1 := dp_int w1
    have ev2 := dp_int w2
    have ev3 := dp_int w3
    subst ev1 ev2 ev3
    exact ⟨i, j, c, n, rfl, hr, for_rangeC Pv (h0 H1 e1) hs hd⟩
/-! ### the stack of need_program -/
def hdArms : Hd → List P
  | .lf _ => []
  | .ite _ a b => [a, b]
  | .rnd _ a => [a]
  | .trn _ a => [a]
def hdSize (h : Hd) : Nat := 1 + ((hdArms h).map P.size).sum
theorem heads_size : ∀ p : P, (p.heads.map hdSize).sum = p.size
  | .nil => rfl
  | .lf x r => by show 1 + 0 + (r.heads.map hdSize).sum = 1 + r.size; rw [heads_size r]
  | .ite c a b r => by show 1 + (a.size + (b.size + 0)) + (r.heads.map hdSize).sum = 1 + a.size + b.size + r.size; rw [heads_size r]; omega
  | .rnd n a r => by show 1 + (a.size + 0) + (r.heads.map hdSize).sum = 1 + a.size + r.size; rw [heads_size r]; omega
  | .trn c a r => by show 1 + (a.size + 0) + (r.heads.map hdSize).sum = 1 + a.size + r.size; rw [heads_size r]; omega
theorem len_size : ∀ p : P, p.len ≤ p.size
  | .nil => Nat.le_refl _
  | .lf x r => by show r.len + 1 ≤ 1 + r.size; have := len_size r; omega
  | .ite c a b r => by show r.len + 1 ≤ 1 + a.size + b.size + r.size; have := len_size r; omega
  | .rnd n a r => by show r.len + 1 ≤ 1 + a.size + r.size; have := len_size r; omega
  | .trn c a r => by show r.len + 1 ≤ 1 + a.size + r.size; have := len_size r; omega
theorem arms_eq (h : Hd) : partsOf h "a" = (hdArms h).map fun p => .tuple (progD p) := by
  cases h with
  | lf x =>
    cases x with
    | deed d => cases d <;> rfl
    | _ => rfl
  | _ => rfl
theorem arms_ok {h : Hd} {d : Nat} (hk : h.ok d) : ∀ p ∈ hdArms h, p.ok (d - 1) := fun p m => by
  cases h with
  | lf x => nomatch m
  | ite c a b =>
    rcases List.mem_cons.mp m with rfl | m
    · exact hk.2.1
    · rcases List.mem_singleton.mp m with rfl
      exact hk.2.2
  | rnd n a => rcases List.mem_singleton.mp m with rfl; exact hk.2.2
  | trn c a => rcases List.mem_singleton.mp m with rfl; exact hk.2
theorem arms_few (h : Hd) : (hdArms h).length ≤ 2 := by cases h <;> simp [hdArms]
/-- an entry that may stand on the stack -/
def EntOk (e : List Nat × Hd) : Prop := ∃ d, e.2.ok d ∧ 1 ≤ d ∧ d ≤ 8 ∧ e.1.length + 2 * d ≤ 17
def tot (l : List (List Nat × Hd)) : Nat := (l.map fun e => hdSize e.2).sum
theorem tot_app (l r : List (List Nat × Hd)) : tot (l ++ r) = tot l + tot r := by unfold tot; rw [List.map_append, List.sum_append]
theorem tot_rev (l : List (List Nat × Hd)) : tot l.reverse = tot l := by unfold tot; rw [List.map_reverse, List.sum_reverse]
theorem tot_ents (A : List Nat) : ∀ (k : Nat) (hs : List Hd), tot (ents A k hs) = (hs.map hdSize).sum
  | _, [] => rfl
  | k, h :: r => by
    show hdSize h + tot (ents A (k + 1) r) = hdSize h + (r.map hdSize).sum
    rw [tot_ents A (k + 1) r]
theorem tot_len (l : List (List Nat × Hd)) : l.length ≤ tot l := by
  induction l with
  | nil => exact Nat.le_refl _
  | cons e r ih =>
    show r.length + 1 ≤ hdSize e.2 + tot r
    unfold hdSize
    omega
theorem tdats_ents (l : List (List Nat × Hd)) : tdats (l.map entD) = true := tdats_all fun d m => by
  obtain ⟨e, _, rfl⟩ := List.mem_map.mp m
  exact tdat_ent e
theorem sh_ent {e : List Nat × Hd} (h : EntOk e) : Sh 17 (entD e) := by
  obtain ⟨d, h1, h2, h3, h4⟩ := h
  exact sh_tup (all_cons ((sh_path e.1).mono (by omega)) (all_cons ((sh_hd h1 h2).mono (by omega)) all_nil))
theorem eqv_nil (ds : List PyData) : PyData.eqv (.list ds) (.list []) = ds.isEmpty := by cases ds <;> simp [PyData.eqv, PyData.eqvAll]
section
variable {Pg : Program} {w : World} {K : PySem.W.Frag} {mg : Str → Option Value} {base : Heap} {dF dB aSt aOt aMm : Addr}
abbrev s_need_program : Stmt := top 32
theorem sc_need_program : FnScope ["thing", "waiting", "many", "path", "step", "arms", "number"] ["thing"] (defScope s_need_program) := ⟨rfl, rfl, rfl, by decide +kernel, rfl, by decide +kernel, by decide +kernel⟩
def R_need_program (ds : List PyData) (d : PyData) : Prop := ∃ p : P, ds = [.tuple (progD p)] ∧ p.ok 8 ∧ p.size ≤ 400 ∧ d = .none
structure NpW (K : PySem.W.Frag) (H : Hp) (x : V) (l : Addr) (μ : Nat) (σ' : L2.St) (H' : Hp) : Prop where
  ex : ∃ (stk : List (List Nat × Hd)) (n : Nat) (xs : List V) (a b c e : Option V), σ' = [some x, some (.ref l), some (.int (n : Int)), a, b, c, e] ∧ μ = tot stk ∧ n + μ ≤ 400 ∧ (∀ q ∈ stk, EntOk q) ∧ Ex H H' ∧ H' l = some (.lst xs) ∧ DpAll K H' xs (stk.map entD)
theorem c_need_program (D : Df K mg "need_program" s_need_program ["thing"]) (T : Txt K mg w dF dB aSt aOt aMm) (c_with_paths : Cl Pg w K mg base 1 "with_paths" (spDL K 2 R_with_paths)) (c_has_form : Cl Pg w K mg base 3 "has_form" (spD K 1 R_has_form))
    (c_arms_of : Cl Pg w K mg base 2 "arms_of" (spD K 1 R_arms_of)) : Cl Pg w K mg base 4 "need_program" (spD K 1 R_need_program) := by
  refine D.cl sc_need_program (fun vs H Q E h => h.1) (fun f cdv A outer s H vs Q E hr h => ?_)
  refine ⟨_, (pss_cons (ps_if (pt_not (pt_val (pe_callB call_isi (by rfl) T.n_isinstance (by decide +kernel) (pa_cons (pv 0) (pa_cons (pe_bltn (v := .ty "tuple") (by rfl) T.n_tuple (by decide +kernel) rfl) pa_nil))))) (pss_one ps_never) pss_nil)
    (pss_cons (ps_set (i := 1) sc_need_program.nd rfl (Or.inl rfl) (pe_u c_with_paths hr (by omega) rfl (pa_cons (pv 0) (pa_cons (pe_tup pa_nil) pa_nil))))
    (pss_cons (ps_set (i := 2) sc_need_program.nd rfl (Or.inl rfl) pe_int)
    (pss_one (ps_while PassesOwn.never (pt_cmpR (op_neD hr.units) (pv 1) (pe_lst pa_nil) (nomark _))
    (pss_cons (ps_asg (pe_bm0 PySem.F.plainAttrs_list PySem.F.slot_list_pop PySem.F.type_list_pop mt_pop (pv 1)) (pg_tup rfl (pgs_cons (pg_name (i := 3) sc_need_program.nd rfl (Or.inl rfl)) (pgs_cons (pg_name (i := 4) sc_need_program.nd rfl (Or.inl rfl)) pgs_nil))))
    (pss_cons (ps_aug (i := 2) sc_need_program.nd rfl (Or.inl rfl) pe_int ip_add)
    (pss_cons (ps_if (PW.pt (pw_or (pt_cmpR op_gt (pv 2) (pe_gc rfl T.g_MOST_STEPS) (nomark _)) (pw_or (pt_cmpR op_gt (pe_callB call_len_seq (by rfl) T.n_len (by decide +kernel) (pa_cons (pv 3) pa_nil)) (pe_op op_sub (pe_op op_mul pe_int (pe_gc rfl T.g_MOST_DEEP)) pe_int) (nomark _)) (pw_or1 (pt_not (pt_val (pe_u c_has_form hr (by omega) rfl (pa_cons (pv 4) pa_nil)))))))) (pss_one ps_never) pss_nil)
    (pss_cons (ps_set (i := 5) sc_need_program.nd rfl (Or.inl rfl) (pe_u c_arms_of hr (by omega) rfl (pa_cons (pv 4) pa_nil)))
    (pss_one (ps_for PassesOwn.never rfl (pi_range3 rfl T.n_range (pa_cons (pe_op op_sub (pe_callB call_len_seq (by rfl) T.n_len (by decide +kernel) (pa_cons (pv 5) pa_nil)) pe_int) (pa_cons (pe_un un_neg pe_int) (pa_cons (pe_un un_neg pe_int) pa_nil)))) (pg_name (i := 6) sc_need_program.nd rfl (Or.inl rfl))
    (pss_one (ps_expr (pe_bm PySem.F.plainAttrs_list PySem.F.slot_list_extend PySem.F.type_list_extend mt_extend (pv 1) (pa_cons (pe_u c_with_paths hr (by omega) rfl (pa_cons (pe_ix ix_tup (pv 5) (pv 6) (fun _ _ => rfl)) (pa_cons (pe_op op_catA (pv 3) (pe_tup (pa_cons (pv 6) pa_nil))) pa_nil))) pa_nil)))))))))))))))
    , ?_⟩
  obtain ⟨_, ds, d, hds, ⟨p, rfl, hk, hsz, rfl⟩, k⟩ := h
  obtain ⟨x, rfl, h1⟩ := dps1 hds
  refine q_not (b := false) (et_not (a := true) (et_dB (ed_isi (ed_var rfl h1) kb_tt))) rfl fun H1 e1 => ?_
  refine qd_asgL (K := K) (ds := ((ents [] 0 p.heads).map entD).reverse) (edl_call (eda_cons (ed_var rfl (h1.ex e1)) (eda_cons (ed_tup eda_nil (Nat.zero_le _)) eda_nil)) ⟨p, [], rfl, Nat.le_trans (len_size p) hsz, Nat.zero_le _, rfl⟩) fun l xs H2 hl e2 hx hxs => ?_
  have hl0 : H l = none := fresh_back e1 hl
  refine qd_asg (K := K) (ed_int (i := 0)) fun v H3 e3 hv => ?_
  obtain rfl := dp_int hv
  rw [← List.map_reverse] at hxs
  refine s_while (NpW K H x l) (tot (ents [] 0 p.heads).reverse) ⟨(ents [] 0 p.heads).reverse, 0, xs, none, none, none, none, rfl, rfl, ?_, fun q m => ?_, (e1.trans e2).trans e3, e3 _ _ hx, hxs.ex e3⟩ ?_
  · rw [tot_rev, tot_ents, heads_size]; omega
  · obtain ⟨m1, m2⟩ := ents_mem (List.mem_reverse.mp m)
    obtain ⟨o1, o2⟩ := p.ok_heads hk q.2 m1
    exact ⟨8, o1, o2, Nat.le_refl _, by rw [m2]; exact Nat.le_refl _⟩
  rintro μ σ' H4 ⟨stk, n, ys, a, b, c, e, rfl, rfl, hn, hok, e4, hy, hys⟩
  refine ⟨!(stk.map entD).isEmpty, et_is (et_d (ed_neD (ed_var (i := 1) rfl (.lst (sq_of hy) hys)) (ed_ofL (edl_lst eda_nil (Nat.zero_le _))) ((sh_lst (n := 17) (all_map fun q m => sh_ent (hok q m))).shaped) ((sh_lst (n := 0) all_nil).shaped))) (by rw [eqv_nil]), fun hne H5 e5 => ?_, fun _ H5 e5 => k _ _ (e4.trans e5) .non⟩
  obtain ⟨s', q, rfl⟩ : ∃ s' q, stk = s' ++ [q] := by
    rcases List.eq_nil_or_concat stk with rfl | ⟨s', q, h⟩
    · cases hne
    · exact ⟨s', q, by rw [h, List.concat_eq_append]⟩
  rw [List.map_append] at hys
  obtain ⟨us, u, rfl, hus, hu⟩ := dps_snoc (hys.ex e5)
  obtain ⟨dd, o1, o2, o3, o4⟩ := hok q (List.mem_append_right _ List.mem_cons_self)
  have hy5 := e5 _ _ hy
  have htot : tot (s' ++ [q]) = tot s' + hdSize q.2 := by rw [tot_app]; rfl
  have hq1 : 1 ≤ hdSize q.2 := by unfold hdSize; omega
  refine ⟨fun σ2 H6 => ∃ m', m' < tot (s' ++ [q]) ∧ NpW K H x l m' σ2 H6, fun _ _ h => h, ?_⟩
  have hx6 : Ex H (upd H5 l (.lst us)) := Ex.mut (e4.trans e5) hl0
  have hu6 : Dp K (upd H5 l (.lst us)) u (entD q) := dp_mut hu (tdat_ent q) hy5
  have hus6 : DpAll K (upd H5 l (.lst us)) us (s'.map entD) := dps_mut hus (tdats_ents s') hy5
  refine ⟨_, rfl, Or.inl ⟨rfl, _, sq_of hy5⟩, l, us ++ [u], u, rfl, rfl, hy5, by simp, ?_⟩
  rw [List.dropLast_concat]
  obtain ⟨z1, z2, hz1, hz2, ht⟩ := tk_two (i := 3) (j := 4) hu6 [some x, some (.ref l), some (.int (n : Int)), a, b, c, e]
  refine ht _ ?_
  have hl6 : upd H5 l (.lst us) l = some (.lst us) := upd_same
  revert hx6 hu6 hus6 hz1 hz2 hl6
  generalize upd H5 l (.lst us) = H6
  intro hx6 hu6 hus6 hz1 hz2 hl6
  refine q_aug (a := (n : Int)) (b := 1) rfl ev_c fun H7 e7 => ?_
  have hcm : CMul 2 8 := .inl ⟨by decide, by decide⟩
  have hlp : (q.1.map nD).length = q.1.length := List.length_map ..
  refine q_not (b := false) (et_or (a := false) (et_is (et_d (ed_gt (K := K) (i := (n : Int) + 1) (j := 400) (ed_var (i := 2) rfl (.int _)) (ed_c (.int 400)))) (decide_eq_false (by rw [htot] at hn; omega))) fun _ =>
    et_or (a := false) (et_is (et_d (ed_gt (K := K) (ed_lenT (ed_var (i := 3) rfl (hz1.ex e7))) (ed_sub (ed_mul ed_int (ed_c (.int 8)) hcm) (ed_int (i := 1))))) (decide_eq_false (by rw [hlp]; omega))) fun _ =>
    et_not (a := true) (et_dB (ed_call (K := K) (eda_cons (ed_var (i := 4) rfl (hz2.ex e7)) eda_nil) ⟨q.2, dd, rfl, o1, o2, o3, rfl⟩))) rfl fun H8 e8 => ?_
  refine qd_asg (ed_call (K := K) (eda_cons (ed_var (i := 4) rfl (hz2.ex (e7.trans e8))) eda_nil) ⟨q.2, rfl, rfl⟩) fun va H9 e9 hva => ?_
  rw [arms_eq] at hva
  have e69 : Ex H6 H9 := (e7.trans e8).trans e9
  have hla : ((hdArms q.2).map fun p => PyData.tuple (progD p)).length = (hdArms q.2).length := List.length_map ..
  have h2a := arms_few q.2
  have q1 := eda_cons (ed_sub (K := K) (ed_lenT (ed_var (σ := [some x, some (.ref l), some (.int ((n : Int) + 1)), some z1, some z2, some va, e]) (i := 5) rfl hva)) (ed_int (i := 1))) (eda_cons (ed_neg (ed_int (K := K) (i := 1))) (eda_cons (ed_neg (ed_int (K := K) (i := 1))) eda_nil))
  rw [hla] at q1
  refine s_for3 q1 (n := (hdArms q.2).length) (RgC_neg' (by omega) (by omega) (by omega) (by omega) (by omega)) (fun i σ' H' => ∃ (s2 : List (List Nat × Hd)) (ys : List V) (o : Option V), σ' = [some x, some (.ref l), some (.int ((n : Int) + 1)), some z1, some z2, some va, o] ∧ tot s2 + (((hdArms q.2).take ((hdArms q.2).length - i)).map P.size).sum ≤ tot s' + ((hdArms q.2).map P.size).sum ∧ (∀ r ∈ s2, EntOk r) ∧
      Ex H H' ∧ H' l = some (.lst ys) ∧ DpAll K H' ys (s2.map entD) ∧ Dp K H' z1 (pathD q.1) ∧ Dp K H' va (.tuple ((hdArms q.2).map fun p => PyData.tuple (progD p)))) ?_ ?_ ?_
  · intro H10 e10
    have e6A := e69.trans e10
    refine ⟨s', us, e, rfl, ?_, fun r m => hok r (List.mem_append_left _ m), hx6.trans e6A, e6A _ _ hl6, hus6.ex e6A, hz1.ex e6A, hva.ex e10⟩
    rw [Nat.sub_zero, List.take_length]
    exact Nat.le_refl _
  · rintro i σ' H' hi ⟨s2, ys, o, rfl, ht2, hok2, hx2, hl2, hys2, hz12, hva2⟩
    have hj : (hdArms q.2).length - 1 - i < (hdArms q.2).length := by omega
    obtain ⟨a0, ha0⟩ : ∃ a0, (hdArms q.2)[(hdArms q.2).length - 1 - i]? = some a0 := ⟨_, List.getElem?_eq_getElem hj⟩
    have hidx : ((hdArms q.2).length : Int) - 1 + (i : Int) * -1 = (((hdArms q.2).length - 1 - i : Nat) : Int) := by omega
    have hm0 := List.mem_of_getElem? ha0
    have hak := arms_ok o1 a0 hm0
    have hsp : ((hdArms q.2).take ((hdArms q.2).length - i)).map P.size = ((hdArms q.2).take ((hdArms q.2).length - (i + 1))).map P.size ++ [a0.size] := by
      rw [show (hdArms q.2).length - i = ((hdArms q.2).length - (i + 1)) + 1 by omega, List.take_succ, show (hdArms q.2).length - (i + 1) = (hdArms q.2).length - 1 - i by omega, ha0, List.map_append]
      rfl
    rw [hsp, List.sum_append] at ht2
    have hsa : ([a0.size] : List Nat).sum = a0.size := by simp
    rw [hsa] at ht2
    have hszq : hdSize q.2 = 1 + ((hdArms q.2).map P.size).sum := rfl
    have ha400 : a0.len ≤ 400 := Nat.le_trans (len_size a0) (by rw [htot] at hn; omega)
    have h2l : s2.length ≤ tot s2 := tot_len s2
    show tDrop _ _ _ _
    rw [hidx]
    refine sd_extend (K := K) (es := ((ents (q.1 ++ [(hdArms q.2).length - 1 - i]) 0 a0.heads).map entD).reverse) hl2 (ev_var rfl) (edl_call (eda_cons (ed_ixT (ed_var (i := 5) rfl hva2) (ed_var (i := 6) rfl (.int _)) (atI_nat (j := (hdArms q.2).length - 1 - i) (by rw [List.getElem?_map, ha0]; rfl))) (eda_cons (ed_catT (ed_var (i := 3) rfl hz12) (ed_tup (eda_cons (ed_var (i := 6) rfl (.int _)) eda_nil) (Nat.le_of_ble_eq_true rfl)) (by rw [List.length_map]; show q.1.length + 1 ≤ _; omega)) eda_nil))
      ⟨a0, q.1 ++ [(hdArms q.2).length - 1 - i], ?_, ha400, by rw [List.length_append]; show q.1.length + 1 ≤ 100; omega, rfl⟩) ?_ fun zs H11 e11 hzs => ?_
    · rw [pathD_add]
    · rw [dps_len hys2, List.length_map, List.length_reverse, List.length_map, ents_len, LB.len_heads]
      rw [htot] at hn
      omega
    · have hl11 := e11 _ _ hl2
      refine ⟨s2 ++ (ents (q.1 ++ [(hdArms q.2).length - 1 - i]) 0 a0.heads).reverse, ys ++ zs, _, rfl, ?_, fun r m => ?_, Ex.mut (hx2.trans e11) hl0, upd_same, ?_, dp_mut (hz12.ex e11) (tdat_path _) hl11, dp_mut (hva2.ex e11) (tdat_tup (tdats_all (all_map fun p _ => tdat_prog p))) hl11⟩
      · rw [tot_app, tot_rev, tot_ents, heads_size]
        omega
      · rcases List.mem_append.mp m with m | m
        · exact hok2 r m
        · obtain ⟨m1, m2⟩ := ents_mem (List.mem_reverse.mp m)
          obtain ⟨p1, p2⟩ := a0.ok_heads hak r.2 m1
          exact ⟨dd - 1, p1, p2, by omega, by rw [m2, List.length_append]; show q.1.length + 1 + 1 + _ ≤ 17; omega⟩
      · rw [List.map_append, List.map_reverse]
        refine dps_mut (dps_app (hys2.ex e11) hzs) (tdats_all fun d m => ?_) hl11
        rcases List.mem_append.mp m with m | m
        · exact tdats_mem (tdats_ents _) d m
        · exact tdats_mem (tdats_ents _) d (List.mem_reverse.mp m)
  · rintro σ' H' ⟨s2, ys, o, rfl, ht2, hok2, hx2, hl2, hys2, hz12, hva2⟩
    have hszq : hdSize q.2 = 1 + ((hdArms q.2).map P.size).sum := rfl
    rw [Nat.sub_self, List.take_zero] at ht2
    have ht3 : tot s2 ≤ tot s' + ((hdArms q.2).map P.size).sum := ht2
    refine ⟨tot s2, by omega, s2, n + 1, ys, some z1, some z2, some va, o, rfl, rfl, by omega, hok2, hx2, hl2, hys2⟩
end
end LW
namespace LW
open PySem PySem.Spec PyProof.Rows L2 Evl
open LB (Deed Lf P Hd)
section
variable {K : PySem.W.Frag} {σ : L2.St} {H : Hp} {D : Ends} {ta te tb : TE} {l : Addr} {xs : List V} {d : PyData} {ds es : List PyData} {wi : TI} {g : TG} {vs : List Nat}
theorem ed_allT {items : List PyData} (hi : IterD K wi σ H items) (hz : items.length < 100000) (turn : ∀ (i : Nat) (d : PyData) v H1, Ex H H1 → items[i]? = some d → Dp K H1 v d → ∃ σ2, Tk g v (wipe σ vs) H1 σ2 ∧ wipe σ2 vs = wipe σ vs ∧ ED K te σ2 H1 (.bool true)) :
    ED K (tCB (rAll K) (tCons (tLc wi g tYes te vs) tNil)) σ H (.bool true) := by
  have hlc := edl_lc (g := g) (tt := tYes) (te := te) (vs := vs) (fun _ => true) (fun _ => PyData.bool true) hi hz (fun _ _ _ => rfl) (fun i d v H3 e3 hi hd => by
    obtain ⟨σ2, t1, t2, t3⟩ := turn i d v H3 e3 hi hd
    exact ⟨σ2, t1, t2, et_yes, fun _ => t3⟩)
  rw [List.filter_eq_self.mpr (fun _ _ => rfl)] at hlc
  have hall := ed_all (bs := items.map fun _ => true) (by
    rw [List.map_map]
    exact hlc)
  refine ed_is hall (congrArg PyData.bool ?_)
  rw [List.all_map]
  exact List.all_eq_true.mpr fun _ _ => rfl
/-- over a tuple of data without lists; the tuples stand -/
theorem s_forTD (h : ED K ta σ H (.tuple ds)) (z : tdats ds = true) {tu : TS} (W : ∀ H1, Ex H H1 → ∃ Pv : Nat → L2.St → Hp → Prop, Pv 0 σ H1 ∧ (∀ i σ' H', Pv i σ' H' → Tx H1 H') ∧
    (∀ i d x σ' H', ds[i]? = some d → Dp K H' x d → Pv i σ' H' → g x σ' H' fun σ2 H2 => tu { D with nx := Pv (i + 1), ct := Pv (i + 1), bk := D.nx } σ2 H2) ∧ (∀ σ' H', Pv ds.length σ' H' → D.nx σ' H')) : tFor (iTup K ta) g tu D σ H :=
  h H (Ex.refl H) _ fun v H1 e hv => by
    obtain ⟨a, xs, rfl, hs, hxs⟩ := dp_tup hv
    obtain ⟨Pv, p0, ptx, ps, pd⟩ := W H1 e
    refine ⟨a, rfl, ⟨xs, hs⟩, for_tup Pv p0 (fun i σ' H' _ p => (ptx i σ' H' p).seq hs) (fun i x σ' H' e1 p => ?_) (by rw [dps_len hxs]; exact pd)⟩
    obtain ⟨d, q1, q2⟩ := dps_at (hxs.tx (ptx i σ' H' p) z) e1
    exact ps i d x σ' H' q1 q2 p
/-- over a list of data without lists, that stands -/
theorem s_forLD (hl : H l = some (.lst xs)) (hxs : DpAll K H xs ds) (h : Ev ta σ H (.ref l)) (z : tdats ds = true) {tu : TS} (W : ∀ H1, Ex H H1 → ∃ Pv : Nat → L2.St → Hp → Prop, Pv 0 σ H1 ∧ (∀ i σ' H', Pv i σ' H' → Tx H H' ∧ H' l = some (.lst xs)) ∧
    (∀ i d x σ' H', ds[i]? = some d → Dp K H' x d → Pv i σ' H' → g x σ' H' fun σ2 H2 => tu { D with nx := Pv (i + 1), ct := Pv (i + 1), bk := D.nx } σ2 H2) ∧ (∀ σ' H', Pv ds.length σ' H' → D.nx σ' H')) : tFor (iList K ta) g tu D σ H :=
  h H (Ex.refl H) _ fun H1 e => by
    obtain ⟨Pv, p0, ptx, ps, pd⟩ := W H1 e
    refine ⟨l, rfl, ⟨xs, sq_of (e _ _ hl)⟩, for_list Pv p0 (fun i σ' H' _ p => sq_of (ptx i σ' H' p).2) (fun i x σ' H' e1 p => ?_) (by rw [dps_len hxs]; exact pd)⟩
    obtain ⟨d, q1, q2⟩ := dps_at (hxs.tx (ptx i σ' H' p).1 z) e1
    exact ps i d x σ' H' q1 q2 p
theorem s_not {t : TT} {b : Bool} {tu : TS} (h : EvT t σ H b) (hb : b = false) (k : ∀ H1, Ex H H1 → D.nx σ H1) : tIfS t tu tNext D σ H := s_when h (fun e => by rw [hb] at e; cases e) fun _ => k
theorem cutFrom (ds : List PyData) (n : Nat) : cutD ds (some (n : Int)) none = ds.drop n := by
  unfold cutD
  rw [show HT.sIx ds.length 0 (some (n : Int)) = min n ds.length from HT.sIx_nat ds.length 0 n]
  show (ds.drop (min n ds.length)).take (ds.length - min n ds.length) = ds.drop n
  rcases Nat.le_total n ds.length with h | h
  · rw [Nat.min_eq_left h, List.take_of_length_le (by rw [List.length_drop]; exact Nat.le_refl _)]
  · rw [Nat.min_eq_right h, List.drop_of_length_le h, List.drop_of_length_le (Nat.le_refl _), List.take_nil]
theorem cutUpto (ds : List PyData) (n : Nat) : cutD ds none (some (n : Int)) = ds.take n := by
  unfold cutD
  rw [show HT.sIx ds.length ds.length (some (n : Int)) = min n ds.length from HT.sIx_nat _ _ n]
  show (ds.drop 0).take (min n ds.length - 0) = ds.take n
  rw [List.drop_zero, Nat.sub_zero]
  rcases Nat.le_total n ds.length with h | h
  · rw [Nat.min_eq_left h]
  · rw [Nat.min_eq_right h, List.take_length, List.take_of_length_le h]
end
theorem set_cut {α : Type} (l : List α) (b : Nat) (hb : b < l.length) (v : α) : l.take b ++ [v] ++ l.drop (b + 1) = l.set b v := by
  rw [List.set_eq_take_append_cons_drop, if_pos hb, List.append_assoc]
  rfl
section
variable {Pg : Program} {w : World} {K : PySem.W.Frag} {mg : Str → Option Value} {base : Heap} {dF dB aSt aOt aMm : Addr}
abbrev s_are_words : Stmt := top 36
theorem sc_are_words : FnScope ["thing", "many", "word"] ["thing", "many"] (defScope s_are_words) := ⟨rfl, rfl, rfl, by decide +kernel, rfl, by decide +kernel, by decide +kernel⟩
def R_are_words (ds : List PyData) (d : PyData) : Prop := ∃ ws : List Int, ds = [.tuple (ws.map PyData.int), .int (ws.length : Int)] ∧ ws.length ≤ 100 ∧ (∀ i ∈ ws, LB.Wd i) ∧ d = .bool true
theorem c_are_words (D : Df K mg "are_words" s_are_words ["thing", "many"]) (T : Txt K mg w dF dB aSt aOt aMm) (c_is_word : Cl Pg w K mg base 2 "is_word" (spD K 1 R_is_word)) : Cl Pg w K mg base 3 "are_words" (spD K 2 R_are_words) := by
  refine D.cl sc_are_words (fun vs H Q E h => h.1) (fun f cdv A outer s H vs Q E hr h => ?_)
  refine ⟨_, (pss_one (ps_ret (pe_and (pe_callB call_isi (by rfl) T.n_isinstance (by decide +kernel) (pa_cons (pv 0) (pa_cons (pe_bltn (v := .ty "tuple") (by rfl) T.n_tuple (by decide +kernel) rfl) pa_nil))) (pe_and (pe_cmpR op_eq (pe_callB call_len_seq (by rfl) T.n_len (by decide +kernel) (pa_cons (pv 0) pa_nil)) (pv 1) (nomark _)) (pe_one (pe_callB (cr_all rfl) (by rfl) T.n_all (by decide +kernel) (pa_cons (pe_lc (own := [("word", 2)]) (g := (gName 2)) (tt := tYes) (by rfl) sc_are_words.nd (pi_tup (pv 0)) (blkOk_by (own := [("word", 2)]) (N := ["thing", "many", "word"]) (sc := defScope s_are_words) (by decide +kernel)) (fun _ _ _ _ _ => (pg_name (i := 2) sc_are_words.nd rfl (Or.inl rfl))) (fun _ _ _ _ _ => pts_nil) (fun _ _ _ _ _ => (pe_u c_is_word hr (by omega) rfl (pa_cons (pv 2) pa_nil)))) pa_nil)))))))
    , ?_⟩
  obtain ⟨_, ds, d, hds, ⟨ws, rfl, hl, hw, rfl⟩, k⟩ := h
  obtain ⟨x, y, rfl, h1, h2⟩ := dps2 hds
  refine sd_ret (d := .bool true) (ed_is (ed_and (a := true) (b := true) (ed_isi (ed_var rfl h1) kb_tt) fun _ => ed_and (a := true) (b := true) (ed_is (ed_eqI (ed_lenT (ed_var rfl h1)) (ed_var rfl h2)) (congrArg PyData.bool (decide_eq_true (by rw [List.length_map])))) fun _ => ?_) rfl) k
  refine ed_allT (it_tup (ed_var rfl h1)) (by rw [List.length_map]; omega) fun i d v H3 e3 hi hd => ?_
  rw [List.getElem?_map] at hi
  cases q : ws[i]? with
  | none => rw [q] at hi; cases hi
  | some j =>
    rw [q] at hi
    cases hi
    obtain ⟨w0, w1⟩ := hw j (List.mem_of_getElem? q)
    exact ⟨_, tk_one _, rfl, ed_call (eda_cons (ed_var rfl hd) eda_nil) ⟨j, rfl, by rw [decide_eq_true w0, decide_eq_true (by omega : j ≤ 15)]; rfl⟩⟩
abbrev s_is_world : Stmt := top 37
theorem sc_is_world : FnScope ["thing", "table"] ["thing"] (defScope s_is_world) := ⟨rfl, rfl, rfl, by decide +kernel, rfl, by decide +kernel, by decide +kernel⟩
def R_is_world (ds : List PyData) (d : PyData) : Prop := ∃ (bx : List Int) (tabs : List (List Int)), ds = [worldD bx tabs] ∧ LB.Good bx tabs ∧ d = .bool true
theorem c_is_world (D : Df K mg "is_world" s_is_world ["thing"]) (T : Txt K mg w dF dB aSt aOt aMm) (c_are_words : Cl Pg w K mg base 3 "are_words" (spD K 2 R_are_words)) : Cl Pg w K mg base 4 "is_world" (spD K 1 R_is_world) := by
  refine D.cl sc_is_world (fun vs H Q E h => h.1) (fun f cdv A outer s H vs Q E hr h => ?_)
  refine ⟨_, (pss_cons (ps_if (PW.pt (pw_or (pt_not (pt_val (pe_callB call_isi (by rfl) T.n_isinstance (by decide +kernel) (pa_cons (pv 0) (pa_cons (pe_bltn (v := .ty "tuple") (by rfl) T.n_tuple (by decide +kernel) rfl) pa_nil))))) (pw_or (pt_cmpR op_ne (pe_callB call_len_seq (by rfl) T.n_len (by decide +kernel) (pa_cons (pv 0) pa_nil)) pe_int (nomark _)) (pw_or1 (pt_not (pt_val (pe_u c_are_words hr (by omega) rfl (pa_cons (pe_ix ix_tup (pv 0) pe_int (fun _ _ => rfl)) (pa_cons (pe_gc rfl T.g_MANY_BOXES) pa_nil))))))))) (pss_one (ps_ret pe_bl)) pss_nil)
    (pss_cons (ps_if (PW.pt (pw_or (pt_not (pt_val (pe_callB call_isi (by rfl) T.n_isinstance (by decide +kernel) (pa_cons (pe_ix ix_tup (pv 0) pe_int (fun _ _ => rfl)) (pa_cons (pe_bltn (v := .ty "tuple") (by rfl) T.n_tuple (by decide +kernel) rfl) pa_nil))))) (pw_or1 (pt_cmpR op_ne (pe_callB call_len_seq (by rfl) T.n_len (by decide +kernel) (pa_cons (pe_ix ix_tup (pv 0) pe_int (fun _ _ => rfl)) pa_nil)) (pe_gc rfl T.g_MANY_TABLES) (nomark _))))) (pss_one (ps_ret pe_bl)) pss_nil)
    (pss_one (ps_ret (pe_callB (cr_all rfl) (by rfl) T.n_all (by decide +kernel) (pa_cons (pe_lc (own := [("table", 1)]) (g := (gName 1)) (tt := tYes) (by rfl) sc_is_world.nd (pi_tup (pe_ix ix_tup (pv 0) pe_int (fun _ _ => rfl))) (blkOk_by (own := [("table", 1)]) (N := ["thing", "table"]) (sc := defScope s_is_world) (by decide +kernel)) (fun _ _ _ _ _ => (pg_name (i := 1) sc_is_world.nd rfl (Or.inl rfl))) (fun _ _ _ _ _ => pts_nil) (fun _ _ _ _ _ => (pe_u c_are_words hr (by omega) rfl (pa_cons (pv 1) (pa_cons (pe_gc rfl T.g_MANY_CELLS) pa_nil))))) pa_nil))))))
    , ?_⟩
  obtain ⟨_, ds, d, hds, ⟨bx, tabs, rfl, G, rfl⟩, k⟩ := h
  obtain ⟨x, rfl, h1⟩ := dps1 hds
  have g0 : ∀ {H1 : Hp}, Ex H H1 → ED K (tOp (rIxT K) (tVar 0) (tC (.int 0))) (start ["thing", "table"] [x]) H1 (.tuple (bx.map PyData.int)) := fun e => ed_ixT (ed_var rfl (h1.ex e)) ed_int rfl
  have g1 : ∀ {H1 : Hp}, Ex H H1 → ED K (tOp (rIxT K) (tVar 0) (tC (.int 1))) (start ["thing", "table"] [x]) H1 (.tuple (tabs.map fun t => .tuple (t.map PyData.int))) := fun e => ed_ixT (ed_var rfl (h1.ex e)) ed_int rfl
  refine q_not (b := false) (et_or (a := false) (et_not (a := true) (et_dB (ed_isi (ed_var rfl h1) kb_tt))) fun _ => et_or (a := false) (et_d (ed_neI (i := 2) (ed_lenT (ed_var rfl h1)) ed_int)) fun _ => et_not (a := true) (et_dB (ed_call (K := K) (eda_cons (g0 (Ex.refl H)) (eda_cons (ed_c (.int 32)) eda_nil)) ⟨bx, by rw [G.n]; rfl, by rw [G.n]; omega, G.w, rfl⟩))) rfl fun H1 e1 => ?_
  refine q_not (b := false) (et_or (a := false) (et_not (a := true) (et_dB (ed_isi (g1 e1) kb_tt))) fun _ => et_is (et_d (ed_neI (ed_lenT (g1 e1)) (ed_c (.int 4)))) (by rw [List.length_map, G.tn]; rfl)) rfl fun H2 e2 => ?_
  refine sd_ret (ed_allT (it_tup (g1 (e1.trans e2))) (by rw [List.length_map, G.tn]; omega) fun i d v H3 e3 hi hd => ?_) fun v H3 e3 => k v H3 ((e1.trans e2).trans e3)
  rw [List.getElem?_map] at hi
  cases q : tabs[i]? with
  | none => rw [q] at hi; cases hi
  | some t =>
    rw [q] at hi
    cases hi
    obtain ⟨w0, w1⟩ := G.tw t (List.mem_of_getElem? q)
    exact ⟨_, tk_one _, rfl, ed_call (K := K) (eda_cons (ed_var rfl hd) (eda_cons (ed_c (.int 16)) eda_nil)) ⟨t, by rw [w0]; rfl, by rw [w0]; omega, w1, rfl⟩⟩
abbrev s_need_world : Stmt := top 41
theorem sc_need_world : FnScope ["thing"] ["thing"] (defScope s_need_world) := ⟨rfl, rfl, rfl, by decide +kernel, rfl, by decide +kernel, by decide +kernel⟩
def R_need_world (ds : List PyData) (d : PyData) : Prop := ∃ (bx : List Int) (tabs : List (List Int)), ds = [worldD bx tabs] ∧ LB.Good bx tabs ∧ d = .none
theorem c_need_world (D : Df K mg "need_world" s_need_world ["thing"]) (T : Txt K mg w dF dB aSt aOt aMm) (c_is_world : Cl Pg w K mg base 4 "is_world" (spD K 1 R_is_world)) : Cl Pg w K mg base 5 "need_world" (spD K 1 R_need_world) := by
  refine D.cl sc_need_world (fun vs H Q E h => h.1) (fun f cdv A outer s H vs Q E hr h => ?_)
  refine ⟨_, (pss_one (ps_if (pt_not (pt_val (pe_u c_is_world hr (by omega) rfl (pa_cons (pv 0) pa_nil)))) (pss_one ps_never) pss_nil))
    , ?_⟩
  obtain ⟨_, ds, d, hds, ⟨bx, tabs, rfl, G, rfl⟩, k⟩ := h
  obtain ⟨x, rfl, h1⟩ := dps1 hds
  exact s_not (b := false) (et_not (a := true) (et_dB (ed_call (K := K) (eda_cons (ed_var rfl h1) eda_nil) ⟨bx, tabs, rfl, G, rfl⟩))) rfl fun H1 e1 => k _ H1 e1 .non
abbrev s_is_rising : Stmt := top 38
theorem sc_is_rising : FnScope ["thing", "many", "number", "one", "other"] ["thing", "many"] (defScope s_is_rising) := ⟨rfl, rfl, rfl, by decide +kernel, rfl, by decide +kernel, by decide +kernel⟩
def R_is_rising (ds : List PyData) (d : PyData) : Prop := ((∃ b : Nat, b < 32 ∧ ds = [.tuple [nD b], .int 32]) ∨ ds = [.tuple [], .int 4]) ∧ d = .bool true
theorem c_is_rising (D : Df K mg "is_rising" s_is_rising ["thing", "many"]) (T : Txt K mg w dF dB aSt aOt aMm) (c_is_among : Cl Pg w K mg base 1 "is_among" (spD K 3 R_is_among)) : Cl Pg w K mg base 2 "is_rising" (spD K 2 R_is_rising) := by
  refine D.cl sc_is_rising (fun vs H Q E h => h.1) (fun f cdv A outer s H vs Q E hr h => ?_)
  refine ⟨_, (pss_cons (ps_if (PW.pt (pw_or (pt_not (pt_val (pe_callB call_isi (by rfl) T.n_isinstance (by decide +kernel) (pa_cons (pv 0) (pa_cons (pe_bltn (v := .ty "tuple") (by rfl) T.n_tuple (by decide +kernel) rfl) pa_nil))))) (pw_or1 (pt_not (pt_val (pe_callB (cr_all rfl) (by rfl) T.n_all (by decide +kernel) (pa_cons (pe_lc (own := [("number", 2)]) (g := (gName 2)) (tt := tYes) (by rfl) sc_is_rising.nd (pi_tup (pv 0)) (blkOk_by (own := [("number", 2)]) (N := ["thing", "many", "number", "one", "other"]) (sc := defScope s_is_rising) (by decide +kernel)) (fun _ _ _ _ _ => (pg_name (i := 2) sc_is_rising.nd rfl (Or.inl rfl))) (fun _ _ _ _ _ => pts_nil) (fun _ _ _ _ _ => (pe_u c_is_among hr (by omega) rfl (pa_cons (pv 2) (pa_cons pe_int (pa_cons (pe_op op_sub (pv 1) pe_int) pa_nil)))))) pa_nil))))))) (pss_one (ps_ret pe_bl)) pss_nil)
    (pss_one (ps_ret (pe_callB (cr_all rfl) (by rfl) T.n_all (by decide +kernel) (pa_cons (pe_lc (own := [("one", 3), ("other", 4)]) (g := (gTup K 2 (gCons (gName 3) (gCons (gName 4) gNil)))) (tt := tYes) (by rfl) sc_is_rising.nd (RZ.pi_zipA rfl T.n_zip (pa_cons (pv 0) (pa_cons (pe_slice sl_tupA (pv 0) (po_some pe_int) po_none) pa_nil))) (blkOk_by (own := [("one", 3), ("other", 4)]) (N := ["thing", "many", "number", "one", "other"]) (sc := defScope s_is_rising) (by decide +kernel)) (fun _ _ _ _ _ => (pg_tup rfl (pgs_cons (pg_name (i := 3) sc_is_rising.nd rfl (Or.inl rfl)) (pgs_cons (pg_name (i := 4) sc_is_rising.nd rfl (Or.inl rfl)) pgs_nil)))) (fun _ _ _ _ _ => pts_nil) (fun _ _ _ _ _ => (pe_cmpR op_lt (pv 3) (pv 4) (nomark _)))) pa_nil)))))
    , ?_⟩
  obtain ⟨_, ds, d, hds, ⟨hR, rfl⟩, k⟩ := h
  obtain ⟨es, n, hes, hle, hin, hcut⟩ : ∃ (es : List PyData) (n : Int), ds = [.tuple es, .int n] ∧ es.length ≤ 1 ∧ (∀ d ∈ es, ∃ i : Int, d = .int i ∧ 0 ≤ i ∧ i ≤ n - 1) ∧ pairD es (es.drop 1) = [] := by
    rcases hR with ⟨b, hb, rfl⟩ | rfl
    · exact ⟨[nD b], 32, rfl, Nat.le_refl _, fun d m => by rcases List.mem_singleton.mp m with rfl; exact ⟨_, rfl, by omega, by omega⟩, rfl⟩
    · exact ⟨[], 4, rfl, Nat.zero_le _, fun d m => (nomatch m), rfl⟩
  subst hes
  obtain ⟨x, y, rfl, h1, h2⟩ := dps2 hds
  refine q_not (b := false) (et_or (a := false) (et_not (a := true) (et_dB (ed_isi (ed_var rfl h1) kb_tt))) fun _ => et_not (a := true) (et_dB (ed_allT (it_tup (ed_var rfl h1)) (by omega) fun i d v H3 e3 hi hd => ?_))) rfl fun H1 e1 => ?_
  · obtain ⟨j, rfl, w0, w1⟩ := hin d (List.mem_of_getElem? hi)
    exact ⟨_, tk_one _, rfl, ed_call (K := K) (eda_cons (ed_var rfl hd) (eda_cons ed_int (eda_cons (ed_sub (ed_var rfl (h2.ex e3)) ed_int) eda_nil))) ⟨j, 0, n - 1, rfl, by rw [decide_eq_true w0, decide_eq_true w1]; rfl⟩⟩
  · have hit := it_zipT (K := K) (σ := start ["thing", "many", "number", "one", "other"] [x, y]) (eda_cons (ed_var (i := 0) rfl (h1.ex e1)) (eda_cons (ed_slT (ed_var (i := 0) rfl (h1.ex e1)) (eo_c (i := 1)) eo_none) eda_nil))
    rw [show cutD es (some 1) none = es.drop 1 from cutFrom es 1, hcut] at hit
    exact sd_ret (ed_allT hit (by show 0 < _; omega) fun i d v H3 e3 hi hd => by simp at hi) fun v H3 e3 => k v H3 (e1.trans e3)
abbrev s_is_hidden : Stmt := top 39
theorem sc_is_hidden : FnScope ["thing"] ["thing"] (defScope s_is_hidden) := ⟨rfl, rfl, rfl, by decide +kernel, rfl, by decide +kernel, by decide +kernel⟩
def hidD (b : Nat) : PyData := .tuple [.tuple [nD b], .tuple []]
def R_is_hidden (ds : List PyData) (d : PyData) : Prop := ∃ b : Nat, b < 32 ∧ ds = [hidD b] ∧ d = .bool true
theorem c_is_hidden (D : Df K mg "is_hidden" s_is_hidden ["thing"]) (T : Txt K mg w dF dB aSt aOt aMm) (c_is_rising : Cl Pg w K mg base 2 "is_rising" (spD K 2 R_is_rising)) : Cl Pg w K mg base 3 "is_hidden" (spD K 1 R_is_hidden) := by
  refine D.cl sc_is_hidden (fun vs H Q E h => h.1) (fun f cdv A outer s H vs Q E hr h => ?_)
  refine ⟨_, (pss_cons (ps_if (PW.pt (pw_or (pt_not (pt_val (pe_callB call_isi (by rfl) T.n_isinstance (by decide +kernel) (pa_cons (pv 0) (pa_cons (pe_bltn (v := .ty "tuple") (by rfl) T.n_tuple (by decide +kernel) rfl) pa_nil))))) (pw_or1 (pt_cmpR op_ne (pe_callB call_len_seq (by rfl) T.n_len (by decide +kernel) (pa_cons (pv 0) pa_nil)) pe_int (nomark _))))) (pss_one (ps_ret pe_bl)) pss_nil)
    (pss_one (ps_ret (pe_and (pe_u c_is_rising hr (by omega) rfl (pa_cons (pe_ix ix_tup (pv 0) pe_int (fun _ _ => rfl)) (pa_cons (pe_gc rfl T.g_MANY_BOXES) pa_nil))) (pe_one (pe_u c_is_rising hr (by omega) rfl (pa_cons (pe_ix ix_tup (pv 0) pe_int (fun _ _ => rfl)) (pa_cons (pe_gc rfl T.g_MANY_TABLES) pa_nil))))))))
    , ?_⟩
  obtain ⟨_, ds, d, hds, ⟨b, hb, rfl, rfl⟩, k⟩ := h
  obtain ⟨x, rfl, h1⟩ := dps1 hds
  refine q_not (b := false) (et_or (a := false) (et_not (a := true) (et_dB (ed_isi (ed_var rfl h1) kb_tt))) fun _ => et_d (ed_neI (i := 2) (ed_lenT (ed_var rfl h1)) ed_int)) rfl fun H1 e1 => ?_
  exact sd_ret (d := .bool true) (ed_is (ed_and (a := true) (b := true) (ed_call (K := K) (eda_cons (ed_ixT (ed_var rfl (h1.ex e1)) ed_int rfl) (eda_cons (ed_c (.int 32)) eda_nil)) ⟨.inl ⟨b, hb, rfl⟩, rfl⟩) fun _ => ed_call (K := K) (eda_cons (ed_ixT (ed_var rfl (h1.ex e1)) ed_int rfl) (eda_cons (ed_c (.int 4)) eda_nil)) ⟨.inr rfl, rfl⟩) rfl) fun v H3 e3 => k v H3 (e1.trans e3)
abbrev s_need_hidden : Stmt := top 42
theorem sc_need_hidden : FnScope ["thing"] ["thing"] (defScope s_need_hidden) := ⟨rfl, rfl, rfl, by decide +kernel, rfl, by decide +kernel, by decide +kernel⟩
def R_need_hidden (ds : List PyData) (d : PyData) : Prop := ∃ b : Nat, b < 32 ∧ ds = [hidD b] ∧ d = .none
theorem c_need_hidden (D : Df K mg "need_hidden" s_need_hidden ["thing"]) (T : Txt K mg w dF dB aSt aOt aMm) (c_is_hidden : Cl Pg w K mg base 3 "is_hidden" (spD K 1 R_is_hidden)) : Cl Pg w K mg base 4 "need_hidden" (spD K 1 R_need_hidden) := by
  refine D.cl sc_need_hidden (fun vs H Q E h => h.1) (fun f cdv A outer s H vs Q E hr h => ?_)
  refine ⟨_, (pss_one (ps_if (pt_not (pt_val (pe_u c_is_hidden hr (by omega) rfl (pa_cons (pv 0) pa_nil)))) (pss_one ps_never) pss_nil))
    , ?_⟩
  obtain ⟨_, ds, d, hds, ⟨b, hb, rfl, rfl⟩, k⟩ := h
  obtain ⟨x, rfl, h1⟩ := dps1 hds
  exact s_not (b := false) (et_not (a := true) (et_dB (ed_call (K := K) (eda_cons (ed_var rfl h1) eda_nil) ⟨b, hb, rfl, rfl⟩))) rfl fun H1 e1 => k _ H1 e1 .non
abbrev s_is_make : Stmt := top 40
theorem sc_is_make : FnScope ["thing", "number", "most"] ["thing"] (defScope s_is_make) := ⟨rfl, rfl, rfl, by decide +kernel, rfl, by decide +kernel, by decide +kernel⟩
abbrev MkOk := LB.MkOk
def R_is_make (ds : List PyData) (d : PyData) : Prop := ∃ m : LB.Mk, ds = [makeD m] ∧ MkOk m ∧ d = .bool true
theorem c_is_make (D : Df K mg "is_make" s_is_make ["thing"]) (T : Txt K mg w dF dB aSt aOt aMm) (c_is_among : Cl Pg w K mg base 1 "is_among" (spD K 3 R_is_among)) : Cl Pg w K mg base 2 "is_make" (spD K 1 R_is_make) := by
  refine D.cl sc_is_make (fun vs H Q E h => h.1) (fun f cdv A outer s H vs Q E hr h => ?_)
  refine ⟨_, (pss_cons (ps_if (PW.pt (pw_or (pt_not (pt_val (pe_callB call_isi (by rfl) T.n_isinstance (by decide +kernel) (pa_cons (pv 0) (pa_cons (pe_bltn (v := .ty "tuple") (by rfl) T.n_tuple (by decide +kernel) rfl) pa_nil))))) (pw_or1 (pt_cmpR op_ne (pe_callB call_len_seq (by rfl) T.n_len (by decide +kernel) (pa_cons (pv 0) pa_nil)) (pe_callB call_len_seq (by rfl) T.n_len (by decide +kernel) (pa_cons (pe_gc rfl T.g_MOST_MAKE) pa_nil)) (nomark _))))) (pss_one (ps_ret pe_bl)) pss_nil)
    (pss_one (ps_ret (pe_callB (cr_all rfl) (by rfl) T.n_all (by decide +kernel) (pa_cons (pe_lc (own := [("number", 1), ("most", 2)]) (g := (gTup K 2 (gCons (gName 1) (gCons (gName 2) gNil)))) (tt := tYes) (by rfl) sc_is_make.nd (RZ.pi_zipA rfl T.n_zip (pa_cons (pv 0) (pa_cons (pe_gc rfl T.g_MOST_MAKE) pa_nil))) (blkOk_by (own := [("number", 1), ("most", 2)]) (N := ["thing", "number", "most"]) (sc := defScope s_is_make) (by decide +kernel)) (fun _ _ _ _ _ => (pg_tup rfl (pgs_cons (pg_name (i := 1) sc_is_make.nd rfl (Or.inl rfl)) (pgs_cons (pg_name (i := 2) sc_is_make.nd rfl (Or.inl rfl)) pgs_nil)))) (fun _ _ _ _ _ => pts_nil) (fun _ _ _ _ _ => (pe_u c_is_among hr (by omega) rfl (pa_cons (pv 1) (pa_cons pe_int (pa_cons (pv 2) pa_nil)))))) pa_nil)))))
    , ?_⟩
  obtain ⟨_, ds, d, hds, ⟨m, rfl, M, rfl⟩, k⟩ := h
  obtain ⟨x, rfl, h1⟩ := dps1 hds
  have hmm : ∀ H1, Dp K H1 (.ref aMm) (.tuple [.int 4, .int 9, .int 9, .int 4, .int 1]) := fun H1 => .tup T.mm.seq (ints_dps [4, 9, 9, 4, 1])
  refine q_not (b := false) (et_or (a := false) (et_not (a := true) (et_dB (ed_isi (ed_var rfl h1) kb_tt))) fun _ => et_d (ed_neI (i := 5) (j := 5) (ed_lenT (ed_var rfl h1)) (ed_lenT (ed_c (hmm H))))) rfl fun H1 e1 => ?_
  refine sd_ret (ed_allT (it_zipT (eda_cons (ed_var rfl (h1.ex e1)) (eda_cons (ed_c (hmm H1)) eda_nil))) (by show 5 < _; omega) fun i d v H3 e3 hi hd => ?_) fun v H3 e3 => k v H3 (e1.trans e3)
  have q : ∀ (a : Nat) (b : Int), (a : Int) ≤ b → d = .tuple [nD a, .int b] → ∃ σ2, Tk (gTup K 2 (gCons (gName 1) (gCons (gName 2) gNil))) v (wipe (start ["thing", "number", "most"] [x]) [1, 2]) H3 σ2 ∧ wipe σ2 [1, 2] = wipe (start ["thing", "number", "most"] [x]) [1, 2] ∧ ED K (tCall (spD K 3 R_is_among) [] E0 (tCons (tVar 1) (tCons (tC (.int 0)) (tCons (tVar 2) tNil)))) σ2 H3 (.bool true) := by
    rintro a b hab rfl
    obtain ⟨u, z, hu, hz, ht⟩ := tk_two (i := 1) (j := 2) hd (wipe (start ["thing", "number", "most"] [x]) [1, 2])
    exact ⟨_, ht, rfl, ed_call (K := K) (eda_cons (ed_var rfl hu) (eda_cons ed_int (eda_cons (ed_var rfl hz) eda_nil))) ⟨a, 0, b, rfl, by rw [decide_eq_true (by omega : (0 : Int) ≤ a), decide_eq_true hab]; rfl⟩⟩
  obtain ⟨m1, m2, m3, m4, m5⟩ := M
  match i, hi with
  | 0, hi => exact q m.near 4 (by omega) (Option.some.inj hi).symm
  | 1, hi => exact q m.far 9 (by omega) (Option.some.inj hi).symm
  | 2, hi => exact q m.wrong 9 (by omega) (Option.some.inj hi).symm
  | 3, hi => exact q m.width 4 (by omega) (Option.some.inj hi).symm
  | 4, hi => exact q m.long 1 (by omega) (Option.some.inj hi).symm
  | n + 5, hi => cases hi
abbrev s_need_make : Stmt := top 43
theorem sc_need_make : FnScope ["thing"] ["thing"] (defScope s_need_make) := ⟨rfl, rfl, rfl, by decide +kernel, rfl, by decide +kernel, by decide +kernel⟩
def R_need_make (ds : List PyData) (d : PyData) : Prop := ∃ m : LB.Mk, ds = [makeD m] ∧ MkOk m ∧ d = .none
theorem c_need_make (D : Df K mg "need_make" s_need_make ["thing"]) (T : Txt K mg w dF dB aSt aOt aMm) (c_is_make : Cl Pg w K mg base 2 "is_make" (spD K 1 R_is_make)) : Cl Pg w K mg base 3 "need_make" (spD K 1 R_need_make) := by
  refine D.cl sc_need_make (fun vs H Q E h => h.1) (fun f cdv A outer s H vs Q E hr h => ?_)
  refine ⟨_, (pss_one (ps_if (pt_not (pt_val (pe_u c_is_make hr (by omega) rfl (pa_cons (pv 0) pa_nil)))) (pss_one ps_never) pss_nil))
    , ?_⟩
  obtain ⟨_, ds, d, hds, ⟨m, rfl, M, rfl⟩, k⟩ := h
  obtain ⟨x, rfl, h1⟩ := dps1 hds
  exact s_not (b := false) (et_not (a := true) (et_dB (ed_call (K := K) (eda_cons (ed_var rfl h1) eda_nil) ⟨m, rfl, M, rfl⟩))) rfl fun H1 e1 => k _ H1 e1 .non
end
end LW
namespace LW
open PySem PySem.Spec PyProof.Rows L2 Evl
open LB (Deed Lf P Hd)
theorem q_sq {tu tz : TS} {D : Ends} {σ : L2.St} {H : Hp} (h : tu { D with nx := tz D } σ H) : tSeq tu tz D σ H := h
section
variable {Pg : Program} {w : World} {K : PySem.W.Frag} {mg : Str → Option Value} {base : Heap} {dF dB aSt aOt aMm : Addr}
abbrev s_worlds_of : Stmt := top 44
theorem sc_worlds_of : FnScope ["world", "hidden", "found", "box", "longer", "boxes", "word"] ["world", "hidden"] (defScope s_worlds_of) := ⟨rfl, rfl, rfl, by decide +kernel, rfl, by decide +kernel, by decide +kernel⟩
def hidRows (bx : List Int) (tabs : List (List Int)) (b : Nat) : List PyData := (List.range 16).map fun k => worldD (bx.set b (k : Nat)) tabs
def R_worlds_of (ds es : List PyData) : Prop := ∃ (bx : List Int) (tabs : List (List Int)) (b : Nat), ds = [worldD bx tabs, hidD b] ∧ LB.Good bx tabs ∧ b < 32 ∧ es = hidRows bx tabs b
def setTo (bx : List Int) (b : Nat) : PyData → PyData
  | .int n => .tuple ((bx.set b n).map PyData.int)
  | d => d
def withTabs (tabs : List (List Int)) (d : PyData) : PyData := .tuple [d, .tuple (tabs.map fun t => .tuple (t.map PyData.int))]
theorem tdats_tabs (tabs : List (List Int)) : tdats (tabs.map fun t => PyData.tuple (t.map PyData.int)) = true := tdats_all (all_map fun t _ => tdat_tup (tdats_ints t))
theorem c_worlds_of (D : Df K mg "worlds_of" s_worlds_of ["world", "hidden"]) (T : Txt K mg w dF dB aSt aOt aMm) (c_need_world : Cl Pg w K mg base 5 "need_world" (spD K 1 R_need_world)) (c_need_hidden : Cl Pg w K mg base 4 "need_hidden" (spD K 1 R_need_hidden)) : Cl Pg w K mg base 6 "worlds_of" (spDL K 2 R_worlds_of) := by
  refine D.cl sc_worlds_of (fun vs H Q E h => h.1) (fun f cdv A outer s H vs Q E hr h => ?_)
  refine ⟨_, (pss_cons (ps_expr (pe_u c_need_world hr (by omega) rfl (pa_cons (pv 0) pa_nil)))
    (pss_cons (ps_expr (pe_u c_need_hidden hr (by omega) rfl (pa_cons (pv 1) pa_nil)))
    (pss_cons (ps_if (PW.pt (pw_or (pt_cmpR op_gt (pe_callB call_len_seq (by rfl) T.n_len (by decide +kernel) (pa_cons (pe_ix ix_tup (pv 1) pe_int (fun _ _ => rfl)) pa_nil)) (pe_gc rfl T.g_MOST_HIDDEN) (nomark _)) (pw_or1 (pt_cmpR (op_neD hr.units) (pe_ix ix_tup (pv 1) pe_int (fun _ _ => rfl)) (pe_tup pa_nil) (nomark _))))) (pss_one ps_never) pss_nil)
    (pss_cons (ps_set (i := 2) sc_worlds_of.nd rfl (Or.inl rfl) (pe_lst (pa_cons (pe_ix ix_tup (pv 0) pe_int (fun _ _ => rfl)) pa_nil)))
    (pss_cons (ps_for PassesOwn.never rfl (pi_tup (pe_ix ix_tup (pv 1) pe_int (fun _ _ => rfl))) (pg_name (i := 3) sc_worlds_of.nd rfl (Or.inr rfl))
    (pss_cons (ps_set (i := 4) sc_worlds_of.nd rfl (Or.inl rfl) (pe_lst pa_nil))
    (pss_cons (ps_for PassesOwn.never rfl (pi_list (pv 2)) (pg_name (i := 5) sc_worlds_of.nd rfl (Or.inr rfl))
    (pss_one (ps_expr (pe_bm PySem.F.plainAttrs_list PySem.F.slot_list_extend PySem.F.type_list_extend mt_extend (pv 4) (pa_cons (pe_lc (own := [("word", 6)]) (g := (gName 6)) (tt := tYes) (by rfl) sc_worlds_of.nd (pi_range1 rfl T.n_range (pa_cons (pe_op op_add (pe_gc rfl T.g_MOST_WORD) pe_int) pa_nil)) (blkOk_by (own := [("word", 6)]) (N := ["world", "hidden", "found", "box", "longer", "boxes", "word"]) (sc := defScope s_worlds_of) (by decide +kernel)) (fun _ _ _ _ _ => (pg_name (i := 6) sc_worlds_of.nd rfl (Or.inl rfl))) (fun _ _ _ _ _ => pts_nil) (fun _ _ _ _ _ => (pe_op (op_catAK K) (pe_op (op_catAK K) (pe_slice (sl_tupAK K) (pv 5) po_none (po_some (pv 3))) (pe_tup (pa_cons (pv 6) pa_nil))) (pe_slice (sl_tupAK K) (pv 5) (po_some (pe_op op_add (pv 3) pe_int)) po_none)))) pa_nil)))))
    (pss_one (ps_set (i := 2) sc_worlds_of.nd rfl (Or.inl rfl) (pv 4))))))
    (pss_one (ps_ret (pe_lc (own := [("boxes", 5)]) (g := (gName 5)) (tt := tYes) (by rfl) sc_worlds_of.nd (pi_list (pv 2)) (blkOk_by (own := [("boxes", 5)]) (N := ["world", "hidden", "found", "box", "longer", "boxes", "word"]) (sc := defScope s_worlds_of) (by decide +kernel)) (fun _ _ _ _ _ => (pg_name (i := 5) sc_worlds_of.nd rfl (Or.inl rfl))) (fun _ _ _ _ _ => pts_nil) (fun _ _ _ _ _ => (pe_tup (pa_cons (pv 5) (pa_cons (pe_ix (ix_tupK K) (pv 0) pe_int (fun _ _ => rfl)) pa_nil))))))))))))
    , ?_⟩
  obtain ⟨_, ds, es, hds, ⟨bx, tabs, b, rfl, G, hb, rfl⟩, k⟩ := h
  obtain ⟨x, y, rfl, h1, h2⟩ := dps2 hds
  have hbl : (bx.map PyData.int).length = 32 := by rw [List.length_map]; exact G.n
  refine qd_drop (ed_call (K := K) (eda_cons (ed_var rfl h1) eda_nil) ⟨bx, tabs, rfl, G, rfl⟩) fun H1 e1 => ?_
  refine qd_drop (ed_call (K := K) (eda_cons (ed_var rfl (h2.ex e1)) eda_nil) ⟨b, hb, rfl, rfl⟩) fun H2 e2 => ?_
  have e02 := e1.trans e2
  have hid : ∀ (j : Int) (z : PyData), atI [PyData.tuple [nD b], PyData.tuple []] j = some z → ∀ {H1 : Hp}, Ex H H1 → ED K (tOp (rIxT K) (tVar 1) (tC (.int j))) (start ["world", "hidden", "found", "box", "longer", "boxes", "word"] [x, y]) H1 z := fun j z hz H1 e => ed_ixT (ed_var rfl (h2.ex e)) ed_int hz
  refine q_not (b := false) (et_or (a := false) (et_d (ed_gt (K := K) (i := (([nD b] : List PyData).length : Int)) (j := 2) (ed_lenT (hid 0 _ rfl e02)) (ed_c (.int 2)))) fun _ => et_is (et_d (ed_neD (hid 1 (.tuple []) rfl e02) (ed_tup eda_nil (Nat.zero_le _)) ((sh_tup (n := 0) all_nil).shaped) ((sh_tup (n := 0) all_nil).shaped))) (by simp [PyData.eqv, PyData.eqvAll])) rfl fun H3 e3 => ?_
  have e03 := e02.trans e3
  refine qd_asgL (K := K) (ds := [.tuple (bx.map PyData.int)]) (edl_lst (eda_cons (ed_ixT (ed_var rfl (h1.ex e03)) ed_int rfl) eda_nil) (Nat.le_of_ble_eq_true rfl)) fun l0 xs0 H4 hl0 e4 hx0 hxs0 => ?_
  have e04 := e03.trans e4
  have hl00 := fresh_back e03 hl0
  refine q_sq ?_
  refine s_forTD (K := K) (ds := [nD b]) (ed_ixT (ed_var (i := 1) rfl (h2.ex e04)) ed_int rfl) rfl fun H5 e5 => ?_
  have e05 := e04.trans e5
  refine ⟨fun i σ' H' => (i = 0 ∧ H5 = H' ∧ σ' = [some x, some y, some (.ref l0), none, none, none, none]) ∨ (i = 1 ∧ Tx H5 H' ∧ Ex H H' ∧ ∃ (lg : Addr) (xs : List V) (a b' : Option V), H lg = none ∧ H' lg = some (.lst xs) ∧ DpAll K H' xs ((List.range 16).map fun k => PyData.tuple ((bx.set b (k : Nat)).map PyData.int)) ∧ σ' = [some x, some y, some (.ref lg), a, some (.ref lg), b', none]), .inl ⟨rfl, rfl, rfl⟩, ?_, ?_, ?_⟩
  · rintro i σ' H' (⟨_, rfl, _⟩ | ⟨_, h, _⟩)
    · exact Tx.refl _
    · exact h
  · rintro i d v σ' H' hi hd hP
    have hi0 : i = 0 := by
      rcases Nat.eq_zero_or_pos i with h | h
      · exact h
      · rw [List.getElem?_eq_none (by show 1 ≤ i; exact h)] at hi; cases hi
    subst hi0
    cases hi
    rcases hP with ⟨_, rfl, rfl⟩ | ⟨h, _⟩
    · obtain rfl := dp_int hd
      show tSeq _ _ _ _ _
      refine qd_asgL (K := K) (edl_lst eda_nil (Nat.zero_le _)) fun lg xs H6 hlg e6 hxl hxl2 => ?_
      obtain rfl : xs = [] := by cases hxl2; rfl
      have e56 := e6
      have hlg0 := fresh_back e05 hlg
      have hne : l0 ≠ lg := fun e => by
        have := e5 _ _ hx0
        rw [e, hlg] at this
        cases this
      have e06 := e05.trans e6
      have hx06 : H6 l0 = some (.lst xs0) := e6 _ _ (e5 _ _ hx0)
      refine q_sq ?_
      refine s_forLD (K := K) (ds := [.tuple (bx.map PyData.int)]) hx06 (hxs0.ex (e5.trans e6)) (ev_var (i := 2) rfl) (by show (tdat (.tuple (bx.map PyData.int)) && true) = true; rw [tdat_tup (tdats_ints bx)]; rfl) fun H7 e7 => ?_
      have e07 := e06.trans e7
      refine ⟨fun i σ' H' => (i = 0 ∧ H7 = H' ∧ σ' = [some x, some y, some (.ref l0), some (.int b), some (.ref lg), none, none]) ∨ (i = 1 ∧ Tx H6 H' ∧ H' l0 = some (.lst xs0) ∧ Ex H H' ∧ Tx H5 H' ∧ ∃ (xs : List V) (b' : Option V), H' lg = some (.lst xs) ∧ DpAll K H' xs ((List.range 16).map fun k => PyData.tuple ((bx.set b (k : Nat)).map PyData.int)) ∧ σ' = [some x, some y, some (.ref l0), some (.int b), some (.ref lg), b', none]), .inl ⟨rfl, rfl, rfl⟩, ?_, ?_, ?_⟩
      · rintro i σ' H' (⟨_, rfl, _⟩ | ⟨_, h, g, _⟩)
        · exact ⟨Tx.of e7, e7 _ _ hx06⟩
        · exact ⟨h, g⟩
      · rintro i d v σ' H' hi hd2 hP
        have hi0 : i = 0 := by
          rcases Nat.eq_zero_or_pos i with h | h
          · exact h
          · rw [List.getElem?_eq_none (by show 1 ≤ i; exact h)] at hi; cases hi
        subst hi0
        cases hi
        rcases hP with ⟨_, rfl, rfl⟩ | ⟨h, _⟩
        · have hit := it_rng (K := K) (σ := [some x, some y, some (.ref l0), some (.int b), some (.ref lg), some v, none]) (H := H7) (eda_cons (ed_add (K := K) (i := 15) (j := 1) (ed_c (.int 15)) ed_int) eda_nil) (by decide) (by decide)
          have hlg7 : H7 lg = some (.lst []) := e7 _ _ hxl
          show tDrop _ _ _ _
          refine sd_extend (K := K) (l := lg) (xs := []) (es := (List.range 16).map fun k => PyData.tuple ((bx.set b (k : Nat)).map PyData.int)) hlg7 (ev_var rfl) ?_ (by simp) fun ys H8 e8 hys => ?_
          · have q := edl_lc (g := gName 6) (tt := tYes) (vs := [6]) (te := tOp (rCatA K) (tOp (rCatA K) (tSl (rSlA K) (tVar 5) tNoPart (tPart (tVar 3))) (tTup (tCons (tVar 6) tNil))) (tSl (rSlA K) (tVar 5) (tPart (tOp (rI0 fun i j => .int (i + j)) (tVar 3) (tC (.int 1)))) tNoPart)) (fun _ => true) (setTo bx b) hit (by simp) (fun d hd _ => ?_) (fun i d v' H9 e9 hi hd => ?_)
            · rw [List.filter_eq_self.mpr (fun _ _ => rfl), List.map_map] at q
              exact q
            · obtain ⟨m, _, rfl⟩ := List.mem_map.mp hd
              exact tdat_tup (tdats_ints _)
            · rw [List.getElem?_map] at hi
              obtain ⟨m, hm, rfl⟩ : ∃ m : Nat, (List.range ((15 : Int) + 1).toNat)[i]? = some m ∧ d = .int (m : Nat) := by
                cases q : (List.range ((15 : Int) + 1).toNat)[i]? with
                | none => rw [q] at hi; cases hi
                | some m => rw [q] at hi; cases hi; exact ⟨m, rfl, rfl⟩
              refine ⟨_, tk_one _, rfl, et_yes, fun _ => ?_⟩
              have hv : Dp K H9 v (.tuple (bx.map PyData.int)) := hd2.ex e9
              refine ed_is (ed_catT (ed_catT (ed_slT (ed_var (i := 5) rfl hv) eo_none (eo_d (K := K) (ed_var (i := 3) rfl (.int (b : Int))))) (ed_tup (eda_cons (ed_var (i := 6) rfl hd) eda_nil) (Nat.le_of_ble_eq_true rfl)) ?_) (ed_slT (ed_var (i := 5) rfl hv) (eo_d (ed_add (K := K) (ed_var (i := 3) rfl (.int (b : Int))) (ed_int (i := 1)))) eo_none) ?_) ?_
              · rw [cutUpto, List.length_take]; show _ + 1 ≤ 100000; omega
              · rw [cutUpto, show ((b : Int) + 1) = ((b + 1 : Nat) : Int) from rfl, cutFrom, List.length_append, List.length_take, List.length_drop]; show _ + 1 + _ ≤ 100000; omega
              · rw [cutUpto, show ((b : Int) + 1) = ((b + 1 : Nat) : Int) from rfl, cutFrom, set_cut _ _ (by omega)]
                show _ = PyData.tuple ((bx.set b (m : Nat)).map PyData.int)
                rw [List.map_set]
          · have hlg8 := e8 _ _ hlg7
            have hex : Ex H (upd H8 lg (.lst ([] ++ ys))) := Ex.mut (e07.trans e8) hlg0
            have htx : Tx H6 (upd H8 lg (.lst ([] ++ ys))) := (Tx.of (e7.trans e8)).trans ((Tx.refl _).upd (.lst hlg8))
            refine .inr ⟨rfl, htx, by rw [upd_ne hne]; exact e8 _ _ (e7 _ _ hx06), hex, (Tx.of e6).trans htx, ys, some v, upd_same, dps_mut hys (tdats_all (all_map fun k _ => tdat_tup (tdats_ints _))) hlg8, rfl⟩
        · cases h
      · rintro σ' H' hP
        rcases hP with ⟨h, _⟩ | ⟨_, t7, _, hx, t5, xs, b', hlg', hxs, rfl⟩
        · cases h
        · refine s_asg (ev_var (i := 4) rfl) fun H9 e9 => ?_
          exact .inr ⟨rfl, t5.trans (Tx.of e9), hx.trans e9, lg, xs, some (.int b), b', hlg0, e9 _ _ hlg', hxs.ex e9, rfl⟩
    · cases h
  · rintro σ' H' hP
    rcases hP with ⟨h, _⟩ | ⟨_, _, hx, lg, xs, a, b', hlg0, hlg, hxs, rfl⟩
    · cases h
    · refine (show tRet (tLc (iList K (tVar 2)) (gName 5) tYes (tTup (tCons (tVar 5) (tCons (tOp (rIxT K) (tVar 0) (tC (.int 1))) tNil))) [5]) { nx := fun _ H' => Q .non H', rt := Q } [some x, some y, some (.ref lg), a, some (.ref lg), b', none] H' from ?_)
      refine sd_retL (K := K) (ds := hidRows bx tabs b) ?_ fun p ys H8 hp e8 hy hys => k p ys H8 (fresh_back hx hp) (hx.trans e8) hy hys
      have q := edl_lc (K := K) (g := gName 5) (tt := tYes) (vs := [5]) (te := tTup (tCons (tVar 5) (tCons (tOp (rIxT K) (tVar 0) (tC (.int 1))) tNil))) (fun _ => true) (withTabs tabs) (it_lst (σ := [some x, some y, some (.ref lg), a, some (.ref lg), b', none]) (ed_var (i := 2) rfl (.lst (sq_of hlg) hxs))) (by simp) (fun d hd _ => ?_) (fun i d v' H9 e9 hi hd => ?_)
      · rw [List.filter_eq_self.mpr (fun _ _ => rfl), List.map_map] at q
        exact q
      · obtain ⟨m, _, rfl⟩ := List.mem_map.mp hd
        exact tdat_world (bx.set b (m : Nat)) tabs
      · refine ⟨_, tk_one _, rfl, et_yes, fun _ => ?_⟩
        exact ed_tup (eda_cons (ed_var (i := 5) rfl hd) (eda_cons (ed_ixT (ed_var (i := 0) rfl (h1.ex (hx.trans e9))) ed_int rfl) eda_nil)) (Nat.le_of_ble_eq_true rfl)
end
end LW
namespace LW
open PySem PySem.Spec PyProof.Rows L2 Evl
open LB (Deed Lf P Hd)
abbrev xr : Int → Int → Int := Builtin.bitXor
abbrev bt (i : Int) : Int := (Builtin.Int.intBits i : Nat)
theorem xr_fin : ∀ i j : Fin 16, 0 ≤ Builtin.bitXor (i.val : Int) (j.val : Int) ∧ Builtin.bitXor (i.val : Int) (j.val : Int) < 16 := by decide +kernel
theorem bt_fin : ∀ i : Fin 16, Builtin.Int.intBits (i.val : Int) ≤ 4 := by decide +kernel
theorem ops : LB.Ops xr bt where
  xw := fun i j ⟨h1, h2⟩ ⟨h3, h4⟩ => by
    have q := xr_fin ⟨i.toNat, by omega⟩ ⟨j.toNat, by omega⟩
    simp only [Int.toNat_of_nonneg h1, Int.toNat_of_nonneg h3] at q
    exact q
  b0 := fun i ⟨h1, h2⟩ => by
    have q := bt_fin ⟨i.toNat, by omega⟩
    simp only [Int.toNat_of_nonneg h1] at q
    show 0 ≤ ((Builtin.Int.intBits i : Nat) : Int) ∧ ((Builtin.Int.intBits i : Nat) : Int) ≤ 4
    omega
section
variable {K : PySem.W.Frag} {σ : L2.St} {H : Hp} {ta tb : TE}
theorem ed_xor {i j : Int} (ha : ED K ta σ H (.int i)) (hb : ED K tb σ H (.int j)) : ED K (tOp (rI0 fun i j => .int (Builtin.bitXor i j)) ta tb) σ H (.int (xr i j)) := ed_op ha hb (rd_I0 (g := Builtin.bitXor))
theorem ed_bits {i : Int} (ha : ED K ta σ H (.int i)) : ED K (tBits ta) σ H (.int (bt i)) := fun H1 e Q q => ha H1 e _ fun x H2 e2 hx => ⟨i, dp_int hx, q _ H2 e2 (.int _)⟩
theorem ed_intB {b : Bool} {tr : TA} (ha : EDA K tr σ H [.bool b]) : ED K (tCB (fun xs H Q => (∃ i, xs = [V.int i] ∧ Q (.int i) H) ∨ ∃ k, xs = [V.bl k] ∧ Q (.int (if k then 1 else 0)) H) tr) σ H (.int (if b then 1 else 0)) := fun H1 e Q q => ha H1 e _ fun xs H2 e2 hx => by
  obtain ⟨x, rfl, h⟩ := dps1 hx
  exact .inr ⟨b, by rw [dp_bl h], q _ H2 e2 (.int _)⟩
theorem int_at {bx : List Int} {c : Nat} (hc : c < bx.length) : atI (bx.map PyData.int) (c : Int) = some (.int (bx.getD c 0)) := atI_nat (by rw [List.getElem?_map, List.getElem?_eq_getElem hc, List.getD_eq_getElem?_getD, List.getElem?_eq_getElem hc]; rfl)
/-- boxes[c] -/
theorem ed_box {bx : List Int} {c : Nat} (ha : ED K ta σ H (.list (bx.map PyData.int))) (hb : ED K tb σ H (nD c)) (hc : c < bx.length) : ED K (tOp (rIxL K) ta tb) σ H (.int (bx.getD c 0)) := ed_ixL ha hb (int_at hc)
end
def nmD (h : Deed) : Str := hdN (.lf (.deed h))
def boxAt (bx : List Int) : PyData → PyData
  | .int i => .int (bx.getD i.toNat 0)
  | d => d
def rdD : Deed → List Nat
  | .set _ _ => []
  | .copy _ c => [c]
  | .op2 _ _ c d => [c, d]
  | .pick _ c d e => [c, d, e]
theorem rdD_eq (d : Deed) : partsOf (.lf (.deed d)) "r" = (rdD d).map nD := by cases d <;> rfl
theorem rdD_ok {d : Deed} (h : d.ok) : ∀ c ∈ rdD d, c < 32 := fun c m => by
  cases d with
  | set b n => nomatch m
  | copy b e => rcases List.mem_singleton.mp m with rfl; exact h.2
  | op2 o b e f =>
    rcases List.mem_cons.mp m with rfl | m
    · exact h.2.1
    · rcases List.mem_singleton.mp m with rfl; exact h.2.2
  | pick b e f g =>
    rcases List.mem_cons.mp m with rfl | m
    · exact h.2.1
    · rcases List.mem_cons.mp m with rfl | m
      · exact h.2.2.1
      · rcases List.mem_singleton.mp m with rfl; exact h.2.2.2
section
variable {Pg : Program} {w : World} {K : PySem.W.Frag} {mg : Str → Option Value} {base : Heap} {dF dB aSt aOt aMm : Addr}
abbrev s_deed_told : Stmt := top 50
theorem sc_deed_told : FnScope ["step", "boxes", "words", "box"] ["step", "boxes"] (defScope s_deed_told) := ⟨rfl, rfl, rfl, by decide +kernel, rfl, by decide +kernel, by decide +kernel⟩
def R_deed_told (ds : List PyData) (d : PyData) : Prop := ∃ (dd : Deed) (bx : List Int), ds = [.tuple (deedD dd), .list (bx.map PyData.int)] ∧ dd.ok ∧ bx.length = 32 ∧ (∀ i ∈ bx, LB.Wd i) ∧ d = .int (LB.deedW xr dd bx)
theorem c_deed_told (D : Df K mg "deed_told" s_deed_told ["step", "boxes"]) (T : Txt K mg w dF dB aSt aOt aMm) (c_reads : Cl Pg w K mg base 2 "reads" (spD K 1 R_reads)) : Cl Pg w K mg base 3 "deed_told" (spD K 2 R_deed_told) := by
  refine D.cl sc_deed_told (fun vs H Q E h => h.1) (fun f cdv A outer s H vs Q E hr h => ?_)
  refine ⟨_, (pss_cons (ps_if (pt_cmpR op_eq (pe_ix ix_tup (pv 0) pe_int (fun _ _ => rfl)) pe_str (nomark _)) (pss_one (ps_ret (pe_ix ix_tup (pv 0) pe_int (fun _ _ => rfl)))) pss_nil)
    (pss_cons (ps_setLc (i := 2) (own := [("box", 3)]) (g := (gName 3)) (tt := tYes) (by rfl) sc_deed_told.nd rfl rfl (sw_true rfl rfl rfl (by decide +kernel)) (pi_tup (pe_u c_reads hr (by omega) rfl (pa_cons (pv 0) pa_nil))) (blkOk_by (own := [("box", 3)]) (N := ["step", "boxes", "words", "box"]) (sc := defScope s_deed_told) (by decide +kernel)) (fun _ _ _ _ _ => (pg_name (i := 3) sc_deed_told.nd rfl (Or.inl rfl))) (fun _ _ _ _ _ => pts_nil) (fun _ _ _ _ _ => (pe_ix (ix_listK K) (pv 1) (pv 3) (fun _ _ => rfl))))
    (pss_cons (ps_if (pt_cmpR op_eq (pe_ix ix_tup (pv 0) pe_int (fun _ _ => rfl)) pe_str (nomark _)) (pss_one (ps_ret (pe_ix ix_list (pv 2) pe_int (fun _ _ => rfl)))) pss_nil)
    (pss_cons (ps_if (pt_cmpR op_eq (pe_ix ix_tup (pv 0) pe_int (fun _ _ => rfl)) pe_str (nomark _)) (pss_one (ps_ret (pe_ifExp (pt_cmpR op_ne (pe_ix ix_list (pv 2) pe_int (fun _ _ => rfl)) pe_int (nomark _)) (pe_ix ix_list (pv 2) pe_int (fun _ _ => rfl)) (pe_ix ix_list (pv 2) pe_int (fun _ _ => rfl))))) pss_nil)
    (pss_cons (ps_if (pt_cmpR op_eq (pe_ix ix_tup (pv 0) pe_int (fun _ _ => rfl)) pe_str (nomark _)) (pss_one (ps_ret (pe_callTy call_int1 (by rfl) T.n_int (by decide +kernel) (pa_cons (pe_cmpR op_lt (pe_ix ix_list (pv 2) pe_int (fun _ _ => rfl)) (pe_ix ix_list (pv 2) pe_int (fun _ _ => rfl)) (nomark _)) pa_nil)))) pss_nil)
    (pss_cons (ps_if (pt_cmpR op_eq (pe_ix ix_tup (pv 0) pe_int (fun _ _ => rfl)) pe_str (nomark _)) (pss_one (ps_ret (pe_callTy call_int1 (by rfl) T.n_int (by decide +kernel) (pa_cons (pe_cmpR op_eq (pe_ix ix_list (pv 2) pe_int (fun _ _ => rfl)) (pe_ix ix_list (pv 2) pe_int (fun _ _ => rfl)) (nomark _)) pa_nil)))) pss_nil)
    (pss_cons (ps_if (pt_cmpR op_eq (pe_ix ix_tup (pv 0) pe_int (fun _ _ => rfl)) pe_str (nomark _)) (pss_one (ps_ret (pe_op op_xor (pe_ix ix_list (pv 2) pe_int (fun _ _ => rfl)) (pe_ix ix_list (pv 2) pe_int (fun _ _ => rfl))))) pss_nil)
    (pss_cons (ps_if (pt_cmpR op_eq (pe_ix ix_tup (pv 0) pe_int (fun _ _ => rfl)) pe_str (nomark _)) (pss_one (ps_ret (pe_ifExp (pt_cmpR op_ne (pe_ix ix_list (pv 2) pe_int (fun _ _ => rfl)) pe_int (nomark _)) (pe_op op_fdiv (pe_ix ix_list (pv 2) pe_int (fun _ _ => rfl)) (pe_ix ix_list (pv 2) pe_int (fun _ _ => rfl))) (pe_gc rfl T.g_MOST_WORD)))) pss_nil)
    (pss_cons (ps_if (pt_cmpR op_eq (pe_ix ix_tup (pv 0) pe_int (fun _ _ => rfl)) pe_str (nomark _)) (pss_one (ps_ret (pe_op op_mod (pe_op op_mul (pe_ix ix_list (pv 2) pe_int (fun _ _ => rfl)) (pe_ix ix_list (pv 2) pe_int (fun _ _ => rfl))) (pe_op op_add (pe_gc rfl T.g_MOST_WORD) pe_int)))) pss_nil)
    (pss_one (ps_ret (pe_op op_mod (pe_ifExp (pt_cmpR op_eq (pe_ix ix_tup (pv 0) pe_int (fun _ _ => rfl)) pe_str (nomark _)) (pe_op op_add (pe_ix ix_list (pv 2) pe_int (fun _ _ => rfl)) (pe_ix ix_list (pv 2) pe_int (fun _ _ => rfl))) (pe_op op_sub (pe_ix ix_list (pv 2) pe_int (fun _ _ => rfl)) (pe_ix ix_list (pv 2) pe_int (fun _ _ => rfl)))) (pe_op op_add (pe_gc rfl T.g_MOST_WORD) pe_int)))))))))))))
    , ?_⟩
  obtain ⟨_, ds, d, hds, ⟨dd, bx, rfl, hk, hl, hw, rfl⟩, k⟩ := h
  obtain ⟨x, y, rfl, h1, h2⟩ := dps2 hds
  have hnm : atI (deedD dd) 0 = some (.str (nmD dd)) := hdD_at0 (.lf (.deed dd))
  have tn : ∀ (z : Str) {b : Bool} {σ : L2.St}, decide (nmD dd = z) = b → σ[0]? = some (some x) → ∀ {H1 : Hp}, Ex H H1 → EvT (tTest (tOp rEq (tOp (rIxT K) (tVar 0) (tC (.int 0))) (tC (.str z)))) σ H1 b := fun z b σ hb hσ H1 e => et_d (ed_eqS (ed_ixT (ed_var hσ (h1.ex e)) ed_int hnm) (ed_c (.str z)) hb)
  by_cases hset : ∃ b n, dd = .set b n
  · obtain ⟨b, n, rfl⟩ := hset
    exact q_yes (tn "set" rfl rfl (Ex.refl H)) rfl fun H1 e1 => sd_ret (ed_ixT (ed_var rfl (h1.ex e1)) ed_int rfl) fun v H2 e2 => k v H2 (e1.trans e2)
  have hns : decide (nmD dd = ("set" : Str)) = false := by
    cases dd with
    | set b n => exact (hset ⟨b, n, rfl⟩).elim
    | copy b c => rfl
    | op2 o b c d => cases o <;> rfl
    | pick b c d e => rfl
  refine q_not (tn "set" hns rfl (Ex.refl H)) rfl fun H1 e1 => ?_
  refine qd_asgL (K := K) (ds := ((rdD dd).map nD).map (boxAt bx)) ?_ fun l xs H2 hl2 e2 hx hxs => ?_
  · have q := edl_lc (K := K) (g := gName 3) (tt := tYes) (vs := [3]) (te := tOp (rIxL K) (tVar 1) (tVar 3)) (fun _ => true) (boxAt bx) (it_tup (σ := start ["step", "boxes", "words", "box"] [x, y]) (ds := partsOf (.lf (.deed dd)) "r") (ed_call (K := K) (E := E0) (eda_cons (ed_var (i := 0) rfl (h1.ex e1)) eda_nil) (R := R_reads) (n := 1) ⟨.lf (.deed dd), rfl, rfl⟩)) (by rw [rdD_eq, List.length_map]; cases dd <;> exact Nat.le_of_ble_eq_true rfl) (fun d hd _ => ?_) (fun i d v H3 e3 hi hd => ?_)
    · rw [List.filter_eq_self.mpr (fun _ _ => rfl), rdD_eq] at q
      exact q
    · rw [rdD_eq] at hd
      obtain ⟨c, _, rfl⟩ := List.mem_map.mp hd
      rfl
    · rw [rdD_eq, List.getElem?_map] at hi
      cases q : (rdD dd)[i]? with
      | none => rw [q] at hi; cases hi
      | some c =>
        rw [q] at hi
        cases hi
        have hc := rdD_ok hk c (List.mem_of_getElem? q)
        exact ⟨_, tk_one _, rfl, et_yes, fun _ => ed_box (ed_var (i := 1) rfl (h2.ex (e1.trans e3))) (ed_var (i := 3) rfl hd) (by omega)⟩
  have e02 := e1.trans e2
  have wd : ∀ {σ : L2.St} (j : Nat) (c : Nat), σ[2]? = some (some (.ref l)) → (rdD dd)[j]? = some c → ∀ {H3 : Hp}, Ex H2 H3 → ED K (tOp (rIxL K) (tVar 2) (tC (.int (j : Int)))) σ H3 (.int (bx.getD c 0)) := fun {σ} j c hσ hj H3 e3 => ed_ixL (ed_var hσ (.lst (sq_of (e3 _ _ hx)) (hxs.ex e3))) ed_int (atI_nat (by rw [List.getElem?_map, List.getElem?_map, hj]; rfl))
  have wW : ∀ c, LB.Wd (bx.getD c 0) := fun c => LB.wd_getD hw c
  have kk : ∀ {H3 : Hp}, Ex H2 H3 → ∀ v H4, Ex H3 H4 → Dp K H4 v (.int (LB.deedW xr dd bx)) → Q v H4 := fun e3 v H4 e4 hv => k v H4 ((e02.trans e3).trans e4) hv
  cases dd with
  | set b n => exact (hset ⟨b, n, rfl⟩).elim
  | copy b c => exact q_yes (tn "copy" rfl rfl e02) rfl fun H3 e3 => sd_ret (wd 0 c rfl rfl e3) (kk e3)
  | pick b c d e =>
    refine q_not (tn "copy" rfl rfl e02) rfl fun H3 e3 => ?_
    refine q_yes (tn "pick" rfl rfl (e02.trans e3)) rfl fun H4 e4 => sd_ret (d := .int (LB.deedW xr (.pick b c d e) bx)) (ed_if (et_d (ed_neI (wd 0 c rfl rfl (e3.trans e4)) ed_int)) (fun h => ed_is (wd 1 d rfl rfl (e3.trans e4)) ?_) (fun h => ed_is (wd 2 e rfl rfl (e3.trans e4)) ?_)) (kk (e3.trans e4))
    · show _ = PyData.int (if bx.getD c 0 ≠ 0 then bx.getD d 0 else bx.getD e 0)
      rw [if_pos (by simpa using h)]
    · show _ = PyData.int (if bx.getD c 0 ≠ 0 then bx.getD d 0 else bx.getD e 0)
      rw [if_neg (by simpa using h)]
  | op2 o b c d =>
    have w0 : ∀ {σ : L2.St}, σ[2]? = some (some (.ref l)) → ∀ {H3 : Hp}, Ex H2 H3 → ED K (tOp (rIxL K) (tVar 2) (tC (.int 0))) σ H3 (.int (bx.getD c 0)) := fun h H3 e => wd 0 c h (by cases o <;> rfl) e
    have w1 : ∀ {σ : L2.St}, σ[2]? = some (some (.ref l)) → ∀ {H3 : Hp}, Ex H2 H3 → ED K (tOp (rIxL K) (tVar 2) (tC (.int 1))) σ H3 (.int (bx.getD d 0)) := fun h H3 e => wd 1 d h (by cases o <;> rfl) e
    obtain ⟨c0, c1⟩ := wW c
    obtain ⟨d0, d1⟩ := wW d
    refine q_not (tn "copy" (by cases o <;> rfl) rfl e02) rfl fun H3 e3 => ?_
    refine q_not (tn "pick" (by cases o <;> rfl) rfl (e02.trans e3)) rfl fun H4 e4 => ?_
    have e24 := e3.trans e4
    cases o with
    | less => exact q_yes (tn "less" rfl rfl (e02.trans e24)) rfl fun H5 e5 => sd_ret (d := .int (LB.deedW xr (.op2 .less b c d) bx)) (ed_is (ed_intB (eda_cons (ed_lt (w0 rfl (e24.trans e5)) (w1 rfl (e24.trans e5))) eda_nil)) (by simp only [decide_eq_true_eq]; rfl)) (kk (e24.trans e5))
    | same =>
      refine q_not (tn "less" rfl rfl (e02.trans e24)) rfl fun H5 e5 => ?_
      exact q_yes (tn "same" rfl rfl (e02.trans (e24.trans e5))) rfl fun H6 e6 => sd_ret (d := .int (LB.deedW xr (.op2 .same b c d) bx)) (ed_is (ed_intB (eda_cons (ed_eqI (w0 rfl ((e24.trans e5).trans e6)) (w1 rfl ((e24.trans e5).trans e6))) eda_nil)) (by simp only [decide_eq_true_eq]; rfl)) (kk ((e24.trans e5).trans e6))
    | mix =>
      refine q_not (tn "less" rfl rfl (e02.trans e24)) rfl fun H5 e5 => ?_
      refine q_not (tn "same" rfl rfl (e02.trans (e24.trans e5))) rfl fun H6 e6 => ?_
      have e26 := (e24.trans e5).trans e6
      exact q_yes (tn "mix" rfl rfl (e02.trans e26)) rfl fun H7 e7 => sd_ret (d := .int (LB.deedW xr (.op2 .mix b c d) bx)) (ed_xor (w0 rfl (e26.trans e7)) (w1 rfl (e26.trans e7))) (kk (e26.trans e7))
    | parts =>
      refine q_not (tn "less" rfl rfl (e02.trans e24)) rfl fun H5 e5 => ?_
      refine q_not (tn "same" rfl rfl (e02.trans (e24.trans e5))) rfl fun H6 e6 => ?_
      have e26 := (e24.trans e5).trans e6
      refine q_not (tn "mix" rfl rfl (e02.trans e26)) rfl fun H7 e7 => ?_
      have e27 := e26.trans e7
      refine q_yes (tn "parts" rfl rfl (e02.trans e27)) rfl fun H8 e8 => sd_ret (d := .int (LB.deedW xr (.op2 .parts b c d) bx)) (ed_if (et_d (ed_neI (w1 rfl (e27.trans e8)) ed_int)) (fun h => ed_is (ed_fdiv (w0 rfl (e27.trans e8)) (w1 rfl (e27.trans e8)) ?_) ?_) (fun h => ed_is (ed_c (.int 15)) ?_)) (kk (e27.trans e8))
      · have h : bx.getD d 0 ≠ 0 := by simpa using h
        exact ⟨by omega, by omega⟩
      · show _ = PyData.int (if bx.getD d 0 ≠ 0 then bx.getD c 0 / bx.getD d 0 else 15)
        rw [if_pos (by simpa using h)]
      · show _ = PyData.int (if bx.getD d 0 ≠ 0 then bx.getD c 0 / bx.getD d 0 else 15)
        rw [if_neg (by simpa using h)]
    | times =>
      refine q_not (tn "less" rfl rfl (e02.trans e24)) rfl fun H5 e5 => ?_
      refine q_not (tn "same" rfl rfl (e02.trans (e24.trans e5))) rfl fun H6 e6 => ?_
      have e26 := (e24.trans e5).trans e6
      refine q_not (tn "mix" rfl rfl (e02.trans e26)) rfl fun H7 e7 => ?_
      have e27 := e26.trans e7
      refine q_not (tn "parts" rfl rfl (e02.trans e27)) rfl fun H8 e8 => ?_
      have e28 := e27.trans e8
      exact q_yes (tn "times" rfl rfl (e02.trans e28)) rfl fun H9 e9 => sd_ret (d := .int (LB.deedW xr (.op2 .times b c d) bx)) (ed_is (ed_mod (ed_mul (w0 rfl (e28.trans e9)) (w1 rfl (e28.trans e9)) (.inl ⟨by omega, by omega⟩)) (ed_add (ed_c (v := .int 15) (.int 15)) ed_int) (by decide)) rfl) (kk (e28.trans e9))
    | add =>
      refine q_not (tn "less" rfl rfl (e02.trans e24)) rfl fun H5 e5 => ?_
      refine q_not (tn "same" rfl rfl (e02.trans (e24.trans e5))) rfl fun H6 e6 => ?_
      have e26 := (e24.trans e5).trans e6
      refine q_not (tn "mix" rfl rfl (e02.trans e26)) rfl fun H7 e7 => ?_
      have e27 := e26.trans e7
      refine q_not (tn "parts" rfl rfl (e02.trans e27)) rfl fun H8 e8 => ?_
      have e28 := e27.trans e8
      refine q_not (tn "times" rfl rfl (e02.trans e28)) rfl fun H9 e9 => ?_
      have e29 := e28.trans e9
      exact sd_ret (d := .int (LB.deedW xr (.op2 .add b c d) bx)) (ed_is (ed_mod (ed_if (b := true) (d := .int (bx.getD c 0 + bx.getD d 0)) (tn "add" rfl rfl (e02.trans e29)) (fun _ => ed_add (w0 rfl e29) (w1 rfl e29)) (fun h => by cases h)) (ed_add (ed_c (v := .int 15) (.int 15)) ed_int) (by decide)) rfl) (kk e29)
    | sub =>
      refine q_not (tn "less" rfl rfl (e02.trans e24)) rfl fun H5 e5 => ?_
      refine q_not (tn "same" rfl rfl (e02.trans (e24.trans e5))) rfl fun H6 e6 => ?_
      have e26 := (e24.trans e5).trans e6
      refine q_not (tn "mix" rfl rfl (e02.trans e26)) rfl fun H7 e7 => ?_
      have e27 := e26.trans e7
      refine q_not (tn "parts" rfl rfl (e02.trans e27)) rfl fun H8 e8 => ?_
      have e28 := e27.trans e8
      refine q_not (tn "times" rfl rfl (e02.trans e28)) rfl fun H9 e9 => ?_
      have e29 := e28.trans e9
      exact sd_ret (d := .int (LB.deedW xr (.op2 .sub b c d) bx)) (ed_is (ed_mod (ed_if (b := false) (d := .int (bx.getD c 0 - bx.getD d 0)) (tn "add" rfl rfl (e02.trans e29)) (fun h => by cases h) (fun _ => ed_sub (w0 rfl e29) (w1 rfl e29))) (ed_add (ed_c (v := .int 15) (.int 15)) ed_int) (by decide)) rfl) (kk e29)
end
end LW
namespace LW
open PySem PySem.Spec PyProof.Rows L2 Evl
open LB (Deed Lf P Hd S Mk)
/-! ### == of plain data -/
mutual
def plainD : PyData → Bool
  | .int _ => true
  | .str _ => true
  | .none => true
  | .tuple ds => plainDs ds
  | .list ds => plainDs ds
  | .bool _ => false
  | .dict _ => false
def plainDs : List PyData → Bool
  | [] => true
  | d :: ds => plainD d && plainDs ds
end
mutual
theorem eqv_iff : ∀ (a b : PyData), plainD a = true → plainD b = true → (PyData.eqv a b = true ↔ a = b)
  | .none, .none, _, _ => by simp [PyData.eqv]
  | .none, .int _, _, _ => by simp [PyData.eqv]
  | .none, .str _, _, _ => by simp [PyData.eqv]
  | .none, .tuple _, _, _ => by simp [PyData.eqv]
  | .none, .list _, _, _ => by simp [PyData.eqv]
  | .int _, .none, _, _ => by simp [PyData.eqv]
  | .int _, .int _, _, _ => by simp [PyData.eqv]
  | .int _, .str _, _, _ => by simp [PyData.eqv]
  | .int _, .tuple _, _, _ => by simp [PyData.eqv]
  | .int _, .list _, _, _ => by simp [PyData.eqv]
  | .str _, .none, _, _ => by simp [PyData.eqv]
  | .str _, .int _, _, _ => by simp [PyData.eqv]
  | .str _, .str _, _, _ => by simp [PyData.eqv]
  | .str _, .tuple _, _, _ => by simp [PyData.eqv]
  | .str _, .list _, _, _ => by simp [PyData.eqv]
  | .tuple xs, .none, _, _ => by simp [PyData.eqv]
  | .tuple xs, .int _, _, _ => by simp [PyData.eqv]
  | .tuple xs, .str _, _, _ => by simp [PyData.eqv]
  | .tuple xs, .tuple ys, h, g => by
    unfold plainD at h g
    have q := eqvs_iff xs ys h g
    simp only [PyData.eqv, PyData.tuple.injEq]
    exact q
  | .tuple xs, .list _, _, _ => by simp [PyData.eqv]
  | .list xs, .none, _, _ => by simp [PyData.eqv]
  | .list xs, .int _, _, _ => by simp [PyData.eqv]
  | .list xs, .str _, _, _ => by simp [PyData.eqv]
  | .list xs, .tuple _, _, _ => by simp [PyData.eqv]
  | .list xs, .list ys, h, g => by
    unfold plainD at h g
    have q := eqvs_iff xs ys h g
    simp only [PyData.eqv, PyData.list.injEq]
    exact q
  | .bool _, _, h, _ => by unfold plainD at h; cases h
  | .dict _, _, h, _ => by unfold plainD at h; cases h
  | _, .bool _, _, h => by unfold plainD at h; cases h
  | _, .dict _, _, h => by unfold plainD at h; cases h
theorem eqvs_iff : ∀ (a b : List PyData), plainDs a = true → plainDs b = true → (PyData.eqvAll a b = true ↔ a = b)
  | [], [], _, _ => by simp [PyData.eqvAll]
  | [], _ :: _, _, _ => by simp [PyData.eqvAll]
  | _ :: _, [], _, _ => by simp [PyData.eqvAll]
  | x :: xs, y :: ys, h, g => by
    unfold plainDs at h g
    obtain ⟨h1, h2⟩ := Bool.and_eq_true_iff.mp h
    obtain ⟨g1, g2⟩ := Bool.and_eq_true_iff.mp g
    simp only [PyData.eqvAll, Bool.and_eq_true, eqv_iff x y h1 g1, eqvs_iff xs ys h2 g2, List.cons.injEq]
end
theorem plainDs_all : ∀ {ds : List PyData}, (∀ d ∈ ds, plainD d = true) → plainDs ds = true
  | [], _ => by unfold plainDs; rfl
  | d :: ds, h => by
    unfold plainDs
    rw [h d List.mem_cons_self, plainDs_all fun e he => h e (List.mem_cons_of_mem _ he)]
    rfl
theorem plain_tup {ds : List PyData} (h : ∀ d ∈ ds, plainD d = true) : plainD (.tuple ds) = true := by unfold plainD; exact plainDs_all h
theorem plain_lst {ds : List PyData} (h : ∀ d ∈ ds, plainD d = true) : plainD (.list ds) = true := by unfold plainD; exact plainDs_all h
theorem plain_int (i : Int) : plainD (.int i) = true := by unfold plainD; rfl
theorem plain_str (i : Str) : plainD (.str i) = true := by unfold plainD; rfl
theorem plain_none : plainD .none = true := by unfold plainD; rfl
/-- == of what two injective encodings say -/
theorem eqv_enc {α : Type} [DecidableEq α] {f : α → PyData} (hf : ∀ a b, f a = f b → a = b) (hp : ∀ a, plainD (f a) = true) (a b : α) : PyData.eqv (f a) (f b) = decide (a = b) := by
  by_cases e : a = b
  · subst e
    rw [decide_eq_true rfl]
    exact (eqv_iff _ _ (hp a) (hp a)).mpr rfl
  · rw [decide_eq_false e]
    cases q : PyData.eqv (f a) (f b) with
    | false => rfl
    | true => exact (e (hf _ _ ((eqv_iff _ _ (hp a) (hp b)).mp q))).elim
/-! ### rooms, touches, events as data -/
def roomD (r : Int × Int) : PyData := .tuple [.int r.1, .int r.2]
def tchD (t : Int × Int × Int) : PyData := .tuple [.int t.1, .int t.2.1, .int t.2.2]
def metD (e : List Nat × Int) : PyData := .tuple [pathD e.1, .int e.2]
theorem roomD_inj (a b : Int × Int) (h : roomD a = roomD b) : a = b := by
  cases a; cases b
  simp [roomD] at h
  simp [h]
theorem tchD_inj (a b : Int × Int × Int) (h : tchD a = tchD b) : a = b := by
  obtain ⟨a1, a2, a3⟩ := a; obtain ⟨b1, b2, b3⟩ := b
  simp [tchD] at h
  simp [h]
theorem plain_room (r : Int × Int) : plainD (roomD r) = true := plain_tup (all_cons (plain_int _) (all_cons (plain_int _) all_nil))
theorem plain_tch (r : Int × Int × Int) : plainD (tchD r) = true := plain_tup (all_cons (plain_int _) (all_cons (plain_int _) (all_cons (plain_int _) all_nil)))
theorem sh_room (r : Int × Int) : Sh 1 (roomD r) := sh_tup (all_cons sh_int (all_cons sh_int all_nil))
theorem sh_tch (r : Int × Int × Int) : Sh 1 (tchD r) := sh_tup (all_cons sh_int (all_cons sh_int (all_cons sh_int all_nil)))
theorem tdat_room (r : Int × Int) : tdat (roomD r) = true := rfl
theorem tdat_tch (r : Int × Int × Int) : tdat (tchD r) = true := rfl
theorem tdat_met (e : List Nat × Int) : tdat (metD e) = true := by
  have h := tdat_path e.1
  unfold metD
  unfold tdat
  unfold tdats
  rw [h]
  rfl
theorem tdats_map {α : Type} {f : α → PyData} (h : ∀ a, tdat (f a) = true) (l : List α) : tdats (l.map f) = true := tdats_all (all_map fun a _ => h a)
/-! ### the instance -/
structure Ad where
  dx : Addr
  lb : Addr
  lt : Addr
  ls : Addr
  lo : Addr
  ln : Addr
  lw : Addr
  lm : Addr
  ts : List Addr
def Ad.own (d : Ad) (a : Addr) : List Addr := a :: d.lb :: d.lt :: d.ls :: d.lo :: d.ln :: d.lw :: d.lm :: d.ts
def goF (m : Mk) (b : Int) (d : Ad) : List (Str × V) := [("nearness", .int (m.near : Int)), ("far", .int (m.far : Int)), ("wrong", .int (m.wrong : Int)), ("width", .int (m.width : Int)), ("long", .int (m.long : Int)), ("boxes", .ref d.lb), ("tables", .ref d.lt), ("said", .ref d.ls), ("beats", .int b),
  ("touches", .ref d.lo), ("nearest", .ref d.ln), ("went", .ref d.lw), ("met", .ref d.lm)]
def kN (n : Nat) : L2.Key := Sum.inl (n : Int)
theorem kN_inj : ∀ {p q : List Nat}, p.map kN = q.map kN → p = q
  | [], [], _ => rfl
  | [], _ :: _, h => by simp at h
  | _ :: _, [], h => by simp at h
  | a :: p, b :: q, h => by
    obtain ⟨h1, h2⟩ := List.cons.inj h
    have h3 : (a : Int) = (b : Int) := Sum.inl.inj h1
    rw [kN_inj h2, show a = b by omega]
theorem kN_vals (p : List Nat) : (p.map kN).map kV = p.map fun (n : Nat) => V.int (n : Int) := by rw [List.map_map]; rfl
structure GoAt (K : PySem.W.Frag) (C : Addr) (H : Hp) (a : Addr) (d : Ad) (m : Mk) (s : S) (z : Nat) : Prop where
  ins : H a = some (.ins C d.dx (goF m s.beats d))
  bx : H d.lb = some (.lst (s.boxes.map V.int))
  tb : H d.lt = some (.lst (d.ts.map V.ref))
  tn : d.ts.length = s.tabs.length
  ta : ∀ (i : Nat) (t : Addr) (tab : List Int), d.ts[i]? = some t → s.tabs[i]? = some tab → H t = some (.lst (tab.map V.int))
  sd : H d.ls = some (.lst (s.said.map V.int))
  to : ∃ xs, H d.lo = some (.lst xs) ∧ DpAll K H xs (s.touches.map tchD)
  nr : ∃ xs, H d.ln = some (.lst xs) ∧ DpAll K H xs (s.near.map roomD)
  wt : ∃ kvs, H d.lw = some (.dT kvs) ∧ kvs.length ≤ z ∧ ∀ p : List Nat, (valV kvs (p.map kN)).getD (.bl true) = .bl (s.went p)
  mt : ∃ xs, H d.lm = some (.lst xs) ∧ DpAll K H xs (s.met.map metD)
  nd : (d.own a).Nodup
/-- the names apart -/
structure NeS (a : Addr) (d : Ad) : Prop where
  a_lb : a ≠ d.lb
  a_lt : a ≠ d.lt
  a_ls : a ≠ d.ls
  a_lo : a ≠ d.lo
  a_ln : a ≠ d.ln
  a_lw : a ≠ d.lw
  a_lm : a ≠ d.lm
  lb_a : d.lb ≠ a
  lb_lt : d.lb ≠ d.lt
  lb_ls : d.lb ≠ d.ls
  lb_lo : d.lb ≠ d.lo
  lb_ln : d.lb ≠ d.ln
  lb_lw : d.lb ≠ d.lw
  lb_lm : d.lb ≠ d.lm
  lt_a : d.lt ≠ a
  lt_lb : d.lt ≠ d.lb
  lt_ls : d.lt ≠ d.ls
  lt_lo : d.lt ≠ d.lo
  lt_ln : d.lt ≠ d.ln
  lt_lw : d.lt ≠ d.lw
  lt_lm : d.lt ≠ d.lm
  ls_a : d.ls ≠ a
  ls_lb : d.ls ≠ d.lb
  ls_lt : d.ls ≠ d.lt
  ls_lo : d.ls ≠ d.lo
  ls_ln : d.ls ≠ d.ln
  ls_lw : d.ls ≠ d.lw
  ls_lm : d.ls ≠ d.lm
  lo_a : d.lo ≠ a
  lo_lb : d.lo ≠ d.lb
  lo_lt : d.lo ≠ d.lt
  lo_ls : d.lo ≠ d.ls
  lo_ln : d.lo ≠ d.ln
  lo_lw : d.lo ≠ d.lw
  lo_lm : d.lo ≠ d.lm
  ln_a : d.ln ≠ a
  ln_lb : d.ln ≠ d.lb
  ln_lt : d.ln ≠ d.lt
  ln_ls : d.ln ≠ d.ls
  ln_lo : d.ln ≠ d.lo
  ln_lw : d.ln ≠ d.lw
  ln_lm : d.ln ≠ d.lm
  lw_a : d.lw ≠ a
  lw_lb : d.lw ≠ d.lb
  lw_lt : d.lw ≠ d.lt
  lw_ls : d.lw ≠ d.ls
  lw_lo : d.lw ≠ d.lo
  lw_ln : d.lw ≠ d.ln
  lw_lm : d.lw ≠ d.lm
  lm_a : d.lm ≠ a
  lm_lb : d.lm ≠ d.lb
  lm_lt : d.lm ≠ d.lt
  lm_ls : d.lm ≠ d.ls
  lm_lo : d.lm ≠ d.lo
  lm_ln : d.lm ≠ d.ln
  lm_lw : d.lm ≠ d.lw
  ts_a : ∀ t ∈ d.ts, t ≠ a
  ts_lb : ∀ t ∈ d.ts, t ≠ d.lb
  ts_lt : ∀ t ∈ d.ts, t ≠ d.lt
  ts_ls : ∀ t ∈ d.ts, t ≠ d.ls
  ts_lo : ∀ t ∈ d.ts, t ≠ d.lo
  ts_ln : ∀ t ∈ d.ts, t ≠ d.ln
  ts_lw : ∀ t ∈ d.ts, t ≠ d.lw
  ts_lm : ∀ t ∈ d.ts, t ≠ d.lm
  tt : d.ts.Nodup
theorem ne_of_nd {a : Addr} {d : Ad} (h : (d.own a).Nodup) : NeS a d := by
  unfold Ad.own at h
  simp only [List.nodup_cons, List.mem_cons, not_or] at h
  obtain ⟨⟨alb, alt, als, alo, aln, alw, alm, ta⟩, ⟨lblt, lbls, lblo, lbln, lblw, lblm, tlb⟩, ⟨ltls, ltlo, ltln, ltlw, ltlm, tlt⟩, ⟨lslo, lsln, lslw, lslm, tls⟩, ⟨loln, lolw, lolm, tlo⟩, ⟨lnlw, lnlm, tln⟩, ⟨lwlm, tlw⟩, tlm, tt⟩ := h
  exact { a_lb := alb, a_lt := alt, a_ls := als, a_lo := alo, a_ln := aln, a_lw := alw, a_lm := alm, lb_a := Ne.symm alb, lb_lt := lblt, lb_ls := lbls, lb_lo := lblo, lb_ln := lbln, lb_lw := lblw, lb_lm := lblm, lt_a := Ne.symm alt, lt_lb := Ne.symm lblt, lt_ls := ltls, lt_lo := ltlo, lt_ln := ltln, lt_lw := ltlw, lt_lm := ltlm, ls_a := Ne.symm als, ls_lb := Ne.symm lbls, ls_lt := Ne.symm ltls, ls_lo := lslo, ls_ln := lsln, ls_lw := lslw, ls_lm := lslm, lo_a := Ne.symm alo, lo_lb := Ne.symm lblo, lo_lt := Ne.symm ltlo, lo_ls := Ne.symm lslo, lo_ln := loln, lo_lw := lolw, lo_lm := lolm, ln_a := Ne.symm aln, ln_lb := Ne.symm lbln, ln_lt := Ne.symm ltln, ln_ls := Ne.symm lsln, ln_lo := Ne.symm loln, ln_lw := lnlw, ln_lm := lnlm, lw_a := Ne.symm alw, lw_lb := Ne.symm lblw, lw_lt := Ne.symm ltlw, lw_ls := Ne.symm lslw, lw_lo := Ne.symm lolw, lw_ln := Ne.symm lnlw, lw_lm := lwlm, lm_a := Ne.symm alm, lm_lb := Ne.symm lblm, lm_lt := Ne.symm ltlm, lm_ls := Ne.symm lslm, lm_lo := Ne.symm lolm, lm_ln := Ne.symm lnlm, lm_lw := Ne.symm lwlm, ts_a := fun t m e => ta (e ▸ m), ts_lb := fun t m e => tlb (e ▸ m), ts_lt := fun t m e => tlt (e ▸ m), ts_ls := fun t m e => tls (e ▸ m), ts_lo := fun t m e => tlo (e ▸ m), ts_ln := fun t m e => tln (e ▸ m), ts_lw := fun t m e => tlw (e ▸ m), ts_lm := fun t m e => tlm (e ▸ m), tt := tt }
section
variable {K : PySem.W.Frag} {C : Addr} {H H' : Hp} {a : Addr} {d d' : Ad} {m : Mk} {s : S} {z z' : Nat}
theorem GoAt.ne (G : GoAt K C H a d m s z) : NeS a d := ne_of_nd G.nd
theorem GoAt.le (G : GoAt K C H a d m s z) (h : z ≤ z') : GoAt K C H a d m s z' := { G with wt := let ⟨k, h1, h2, h3⟩ := G.wt; ⟨k, h1, Nat.le_trans h2 h, h3⟩ }
theorem GoAt.ex (G : GoAt K C H a d m s z) (e : Ex H H') : GoAt K C H' a d m s z where
  ins := e _ _ G.ins
  bx := e _ _ G.bx
  tb := e _ _ G.tb
  tn := G.tn
  ta := fun i t tab h1 h2 => e _ _ (G.ta i t tab h1 h2)
  sd := e _ _ G.sd
  to := let ⟨k, h1, h2⟩ := G.to; ⟨k, e _ _ h1, h2.ex e⟩
  nr := let ⟨k, h1, h2⟩ := G.nr; ⟨k, e _ _ h1, h2.ex e⟩
  wt := let ⟨k, h1, h2⟩ := G.wt; ⟨k, e _ _ h1, h2⟩
  mt := let ⟨k, h1, h2⟩ := G.mt; ⟨k, e _ _ h1, h2.ex e⟩
  nd := G.nd
theorem GoAt.notT (G : GoAt K C H a d m s z) : ∀ b ∈ d.own a, NoT (H b) := fun b hb => by
  unfold Ad.own at hb
  simp only [List.mem_cons] at hb
  rcases hb with rfl | rfl | rfl | rfl | rfl | rfl | rfl | rfl | hb
  · exact .ins G.ins
  · exact .lst G.bx
  · exact .lst G.tb
  · exact .lst G.sd
  · obtain ⟨_, h, _⟩ := G.to; exact .lst h
  · obtain ⟨_, h, _⟩ := G.nr; exact .lst h
  · obtain ⟨_, h, _⟩ := G.wt; exact .dT h
  · obtain ⟨_, h, _⟩ := G.mt; exact .lst h
  · obtain ⟨i, hi⟩ := List.getElem?_of_mem hb
    have hl : i < s.tabs.length := by rw [← G.tn]; exact (List.getElem?_eq_some_iff.mp hi).1
    exact .lst (G.ta i b _ hi (List.getElem?_eq_getElem hl))
/-- what is not owned stays -/
def Fr (own : List Addr) (H H' : Hp) : Prop := ∀ b o, H b = some o → b ∉ own → H' b = some o
structure Nx (a : Addr) (d : Ad) (H : Hp) (d' : Ad) (H' : Hp) : Prop where
  fr : Fr (d.own a) H H'
  nw : ∀ b ∈ d'.own a, b ∈ d.own a ∨ H b = none
theorem Nx.ex (e : Ex H H') : Nx a d H d H' := ⟨fun b o h _ => e b o h, fun b h => .inl h⟩
theorem Nx.refl (a : Addr) (d : Ad) (H : Hp) : Nx a d H d H := .ex (Ex.refl H)
theorem Nx.trans {d2 : Ad} {H2 : Hp} (x : Nx a d H d' H') (y : Nx a d' H' d2 H2) : Nx a d H d2 H2 where
  fr := fun b o h n => y.fr b o (x.fr b o h n) fun m => by
    rcases x.nw b m with q | q
    · exact n q
    · rw [h] at q; cases q
  nw := fun b h => by
    rcases y.nw b h with q | q
    · exact x.nw b q
    · by_cases n : b ∈ d.own a
      · exact .inl n
      · cases e : H b with
        | none => exact .inr rfl
        | some o => rw [x.fr b o e n] at q; cases q
theorem Nx.upd {b : Addr} {o : HO} (h : b ∈ d.own a) : Nx a d H d (upd H b o) where
  fr := fun c u e n => by
    have q : c ≠ b := fun q => n (by rw [q]; exact h)
    show L2.upd H b o c = some u
    rw [upd_ne q]; exact e
  nw := fun c h => .inl h
theorem Nx.tx (x : Nx a d H d' H') (G : GoAt K C H a d m s z) : Tx H H' := fun b xs h => by
  have nb : b ∉ d.own a := fun hm => by
    obtain ⟨n1, n2⟩ := G.notT b hm xs
    rcases h with h | ⟨u, h⟩
    · exact n1 h
    · exact n2 u h
  rcases h with h | ⟨u, h⟩
  · exact .inl (x.fr b _ h nb)
  · exact .inr ⟨u, x.fr b _ h nb⟩
theorem Nx.keepEx {H0 : Hp} (x : Nx a d H d' H') (e : Ex H0 H) (n : ∀ b ∈ d.own a, H0 b = none) : Ex H0 H' ∧ ∀ b ∈ d'.own a, H0 b = none := by
  refine ⟨fun b o h => x.fr b o (e b o h) (fun hm => by rw [n b hm] at h; cases h), fun b hb => ?_⟩
  rcases x.nw b hb with q | q
  · exact n b q
  · cases e' : H0 b with
    | none => rfl
    | some o => rw [e b o e'] at q; cases q
theorem own_a : a ∈ d.own a := List.mem_cons_self

theorem own_lb : d.lb ∈ d.own a := by simp [Ad.own]
theorem own_lt : d.lt ∈ d.own a := by simp [Ad.own]
theorem own_ls : d.ls ∈ d.own a := by simp [Ad.own]
theorem own_lo : d.lo ∈ d.own a := by simp [Ad.own]
theorem own_ln : d.ln ∈ d.own a := by simp [Ad.own]
theorem own_lw : d.lw ∈ d.own a := by simp [Ad.own]
theorem own_lm : d.lm ∈ d.own a := by simp [Ad.own]
theorem own_ts {t : Addr} (h : t ∈ d.ts) : t ∈ d.own a := by simp [Ad.own, h]
theorem GoAt.setBx (G : GoAt K C H a d m s z) (bx : List Int) : GoAt K C (upd H d.lb (.lst (bx.map V.int))) a d m { s with boxes := bx } z := by
  have n := G.ne
  exact {
    ins := by rw [upd_ne n.a_lb]; exact G.ins
    bx := upd_same
    tb := by rw [upd_ne n.lt_lb]; exact G.tb
    sd := by rw [upd_ne n.ls_lb]; exact G.sd
    to := by obtain ⟨k, h1, h2⟩ := G.to; exact ⟨k, by rw [upd_ne n.lo_lb]; exact h1, h2.tx ((Tx.refl H).upd (G.notT _ own_lb)) (tdats_map tdat_tch _)⟩
    nr := by obtain ⟨k, h1, h2⟩ := G.nr; exact ⟨k, by rw [upd_ne n.ln_lb]; exact h1, h2.tx ((Tx.refl H).upd (G.notT _ own_lb)) (tdats_map tdat_room _)⟩
    wt := by obtain ⟨k, h1, h2⟩ := G.wt; exact ⟨k, by rw [upd_ne n.lw_lb]; exact h1, h2⟩
    mt := by obtain ⟨k, h1, h2⟩ := G.mt; exact ⟨k, by rw [upd_ne n.lm_lb]; exact h1, h2.tx ((Tx.refl H).upd (G.notT _ own_lb)) (tdats_map tdat_met _)⟩
    tn := G.tn
    ta := fun i t tab h1 h2 => by rw [upd_ne (n.ts_lb t (List.mem_of_getElem? h1))]; exact G.ta i t tab h1 h2
    nd := G.nd }
theorem GoAt.setSd (G : GoAt K C H a d m s z) (l : List Int) : GoAt K C (upd H d.ls (.lst (l.map V.int))) a d m { s with said := l } z := by
  have n := G.ne
  exact {
    ins := by rw [upd_ne n.a_ls]; exact G.ins
    bx := by rw [upd_ne n.lb_ls]; exact G.bx
    tb := by rw [upd_ne n.lt_ls]; exact G.tb
    sd := upd_same
    to := by obtain ⟨k, h1, h2⟩ := G.to; exact ⟨k, by rw [upd_ne n.lo_ls]; exact h1, h2.tx ((Tx.refl H).upd (G.notT _ own_ls)) (tdats_map tdat_tch _)⟩
    nr := by obtain ⟨k, h1, h2⟩ := G.nr; exact ⟨k, by rw [upd_ne n.ln_ls]; exact h1, h2.tx ((Tx.refl H).upd (G.notT _ own_ls)) (tdats_map tdat_room _)⟩
    wt := by obtain ⟨k, h1, h2⟩ := G.wt; exact ⟨k, by rw [upd_ne n.lw_ls]; exact h1, h2⟩
    mt := by obtain ⟨k, h1, h2⟩ := G.mt; exact ⟨k, by rw [upd_ne n.lm_ls]; exact h1, h2.tx ((Tx.refl H).upd (G.notT _ own_ls)) (tdats_map tdat_met _)⟩
    tn := G.tn
    ta := fun i t tab h1 h2 => by rw [upd_ne (n.ts_ls t (List.mem_of_getElem? h1))]; exact G.ta i t tab h1 h2
    nd := G.nd }
theorem GoAt.setTo (G : GoAt K C H a d m s z) {xs : List V} {l : List (Int × Int × Int)} (h : DpAll K H xs (l.map tchD)) : GoAt K C (upd H d.lo (.lst xs)) a d m { s with touches := l } z := by
  have n := G.ne
  exact {
    ins := by rw [upd_ne n.a_lo]; exact G.ins
    bx := by rw [upd_ne n.lb_lo]; exact G.bx
    tb := by rw [upd_ne n.lt_lo]; exact G.tb
    sd := by rw [upd_ne n.ls_lo]; exact G.sd
    to := ⟨xs, upd_same, h.tx ((Tx.refl H).upd (G.notT _ own_lo)) (tdats_map tdat_tch _)⟩
    nr := by obtain ⟨k, h1, h2⟩ := G.nr; exact ⟨k, by rw [upd_ne n.ln_lo]; exact h1, h2.tx ((Tx.refl H).upd (G.notT _ own_lo)) (tdats_map tdat_room _)⟩
    wt := by obtain ⟨k, h1, h2⟩ := G.wt; exact ⟨k, by rw [upd_ne n.lw_lo]; exact h1, h2⟩
    mt := by obtain ⟨k, h1, h2⟩ := G.mt; exact ⟨k, by rw [upd_ne n.lm_lo]; exact h1, h2.tx ((Tx.refl H).upd (G.notT _ own_lo)) (tdats_map tdat_met _)⟩
    tn := G.tn
    ta := fun i t tab h1 h2 => by rw [upd_ne (n.ts_lo t (List.mem_of_getElem? h1))]; exact G.ta i t tab h1 h2
    nd := G.nd }
theorem GoAt.setMt (G : GoAt K C H a d m s z) {xs : List V} {l : List (List Nat × Int)} (h : DpAll K H xs (l.map metD)) : GoAt K C (upd H d.lm (.lst xs)) a d m { s with met := l } z := by
  have n := G.ne
  exact {
    ins := by rw [upd_ne n.a_lm]; exact G.ins
    bx := by rw [upd_ne n.lb_lm]; exact G.bx
    tb := by rw [upd_ne n.lt_lm]; exact G.tb
    sd := by rw [upd_ne n.ls_lm]; exact G.sd
    to := by obtain ⟨k, h1, h2⟩ := G.to; exact ⟨k, by rw [upd_ne n.lo_lm]; exact h1, h2.tx ((Tx.refl H).upd (G.notT _ own_lm)) (tdats_map tdat_tch _)⟩
    nr := by obtain ⟨k, h1, h2⟩ := G.nr; exact ⟨k, by rw [upd_ne n.ln_lm]; exact h1, h2.tx ((Tx.refl H).upd (G.notT _ own_lm)) (tdats_map tdat_room _)⟩
    wt := by obtain ⟨k, h1, h2⟩ := G.wt; exact ⟨k, by rw [upd_ne n.lw_lm]; exact h1, h2⟩
    mt := ⟨xs, upd_same, h.tx ((Tx.refl H).upd (G.notT _ own_lm)) (tdats_map tdat_met _)⟩
    tn := G.tn
    ta := fun i t tab h1 h2 => by rw [upd_ne (n.ts_lm t (List.mem_of_getElem? h1))]; exact G.ta i t tab h1 h2
    nd := G.nd }
theorem GoAt.setWt (G : GoAt K C H a d m s z) {kvs : List (List L2.Key × V)} {w : List Nat → Bool} (h1 : kvs.length ≤ z') (h2 : ∀ p : List Nat, (valV kvs (p.map kN)).getD (.bl true) = .bl (w p)) : GoAt K C (upd H d.lw (.dT kvs)) a d m { s with went := w } z' := by
  have n := G.ne
  exact {
    ins := by rw [upd_ne n.a_lw]; exact G.ins
    bx := by rw [upd_ne n.lb_lw]; exact G.bx
    tb := by rw [upd_ne n.lt_lw]; exact G.tb
    sd := by rw [upd_ne n.ls_lw]; exact G.sd
    to := by obtain ⟨k, h1, h2⟩ := G.to; exact ⟨k, by rw [upd_ne n.lo_lw]; exact h1, h2.tx ((Tx.refl H).upd (G.notT _ own_lw)) (tdats_map tdat_tch _)⟩
    nr := by obtain ⟨k, h1, h2⟩ := G.nr; exact ⟨k, by rw [upd_ne n.ln_lw]; exact h1, h2.tx ((Tx.refl H).upd (G.notT _ own_lw)) (tdats_map tdat_room _)⟩
    wt := ⟨kvs, upd_same, h1, h2⟩
    mt := by obtain ⟨k, h1, h2⟩ := G.mt; exact ⟨k, by rw [upd_ne n.lm_lw]; exact h1, h2.tx ((Tx.refl H).upd (G.notT _ own_lw)) (tdats_map tdat_met _)⟩
    tn := G.tn
    ta := fun i t tab h1 h2 => by rw [upd_ne (n.ts_lw t (List.mem_of_getElem? h1))]; exact G.ta i t tab h1 h2
    nd := G.nd }
theorem GoAt.setBe (G : GoAt K C H a d m s z) (b : Int) : GoAt K C (upd H a (.ins C d.dx (goF m b d))) a d m { s with beats := b } z := by
  have n := G.ne
  exact {
    ins := upd_same
    bx := by rw [upd_ne n.lb_a]; exact G.bx
    tb := by rw [upd_ne n.lt_a]; exact G.tb
    sd := by rw [upd_ne n.ls_a]; exact G.sd
    to := by obtain ⟨k, h1, h2⟩ := G.to; exact ⟨k, by rw [upd_ne n.lo_a]; exact h1, h2.tx ((Tx.refl H).upd (G.notT _ own_a)) (tdats_map tdat_tch _)⟩
    nr := by obtain ⟨k, h1, h2⟩ := G.nr; exact ⟨k, by rw [upd_ne n.ln_a]; exact h1, h2.tx ((Tx.refl H).upd (G.notT _ own_a)) (tdats_map tdat_room _)⟩
    wt := by obtain ⟨k, h1, h2⟩ := G.wt; exact ⟨k, by rw [upd_ne n.lw_a]; exact h1, h2⟩
    mt := by obtain ⟨k, h1, h2⟩ := G.mt; exact ⟨k, by rw [upd_ne n.lm_a]; exact h1, h2.tx ((Tx.refl H).upd (G.notT _ own_a)) (tdats_map tdat_met _)⟩
    tn := G.tn
    ta := fun i t tab h1 h2 => by rw [upd_ne (n.ts_a t (List.mem_of_getElem? h1))]; exact G.ta i t tab h1 h2
    nd := G.nd }
theorem getElem?_inj_nd : ∀ {l : List Addr} {i j : Nat} {t : Addr}, l.Nodup → l[i]? = some t → l[j]? = some t → i = j
  | [], i, j, t, _, h, _ => by simp at h
  | x :: l, 0, 0, t, _, _, _ => rfl
  | x :: l, 0, j + 1, t, n, h, g => by
    have h : x = t := by simpa using h
    have g : l[j]? = some t := by simpa using g
    exact ((List.nodup_cons.mp n).1 (h ▸ List.mem_of_getElem? g)).elim
  | x :: l, i + 1, 0, t, n, h, g => by
    have g : x = t := by simpa using g
    have h : l[i]? = some t := by simpa using h
    exact ((List.nodup_cons.mp n).1 (g ▸ List.mem_of_getElem? h)).elim
  | x :: l, i + 1, j + 1, t, n, h, g => congrArg (· + 1) (getElem?_inj_nd (List.nodup_cons.mp n).2 (by simpa using h) (by simpa using g))
theorem GoAt.setTb (G : GoAt K C H a d m s z) {j : Nat} {t0 : Addr} (hj : d.ts[j]? = some t0) (tab : List Int) : GoAt K C (upd H t0 (.lst (tab.map V.int))) a d m { s with tabs := s.tabs.set j tab } z := by
  have n := G.ne
  exact {
    ins := by rw [upd_ne (Ne.symm (n.ts_a t0 (List.mem_of_getElem? hj)))]; exact G.ins
    bx := by rw [upd_ne (Ne.symm (n.ts_lb t0 (List.mem_of_getElem? hj)))]; exact G.bx
    tb := by rw [upd_ne (Ne.symm (n.ts_lt t0 (List.mem_of_getElem? hj)))]; exact G.tb
    sd := by rw [upd_ne (Ne.symm (n.ts_ls t0 (List.mem_of_getElem? hj)))]; exact G.sd
    to := by obtain ⟨k, h1, h2⟩ := G.to; exact ⟨k, by rw [upd_ne (Ne.symm (n.ts_lo t0 (List.mem_of_getElem? hj)))]; exact h1, h2.tx ((Tx.refl H).upd (G.notT _ (own_ts (List.mem_of_getElem? hj)))) (tdats_map tdat_tch _)⟩
    nr := by obtain ⟨k, h1, h2⟩ := G.nr; exact ⟨k, by rw [upd_ne (Ne.symm (n.ts_ln t0 (List.mem_of_getElem? hj)))]; exact h1, h2.tx ((Tx.refl H).upd (G.notT _ (own_ts (List.mem_of_getElem? hj)))) (tdats_map tdat_room _)⟩
    wt := by obtain ⟨k, h1, h2⟩ := G.wt; exact ⟨k, by rw [upd_ne (Ne.symm (n.ts_lw t0 (List.mem_of_getElem? hj)))]; exact h1, h2⟩
    mt := by obtain ⟨k, h1, h2⟩ := G.mt; exact ⟨k, by rw [upd_ne (Ne.symm (n.ts_lm t0 (List.mem_of_getElem? hj)))]; exact h1, h2.tx ((Tx.refl H).upd (G.notT _ (own_ts (List.mem_of_getElem? hj)))) (tdats_map tdat_met _)⟩
    tn := by rw [List.length_set]; exact G.tn
    ta := fun i t tab' h1 h2 => by
      by_cases e : t = t0
      · subst e
        have e2 := getElem?_inj_nd n.tt h1 hj
        subst e2
        rw [List.getElem?_set_self (by rw [← G.tn]; exact (List.getElem?_eq_some_iff.mp hj).1)] at h2
        rw [upd_same, Option.some.inj h2]
      · rw [upd_ne e]
        have e2 : j ≠ i := fun q => by subst q; rw [h1] at hj; exact e (Option.some.inj hj)
        rw [List.getElem?_set_ne e2] at h2
        exact G.ta i t tab' h1 h2
    nd := G.nd }
theorem GoAt.setNr (G : GoAt K C H a d m s z) {l : Addr} {xs : List V} {r : List (Int × Int)} (hl : H l = some (.lst xs)) (hxs : DpAll K H xs (r.map roomD)) (hn : l ∉ d.own a) : GoAt K C (upd H a (.ins C d.dx (goF m s.beats { d with ln := l }))) a { d with ln := l } m { s with near := r } z := by
  have n := G.ne
  have tx : Tx H (upd H a (.ins C d.dx (goF m s.beats { d with ln := l }))) := (Tx.refl H).upd (G.notT _ own_a)
  have nl : ∀ b ∈ d.own a, b ≠ l := fun b hb e => hn (e ▸ hb)
  exact {
    ins := upd_same
    bx := by show upd _ _ _ d.lb = _; rw [upd_ne n.lb_a]; exact G.bx
    tb := by show upd _ _ _ d.lt = _; rw [upd_ne n.lt_a]; exact G.tb
    tn := G.tn
    ta := fun i t tab h1 h2 => by rw [upd_ne (n.ts_a t (List.mem_of_getElem? h1))]; exact G.ta i t tab h1 h2
    sd := by show upd _ _ _ d.ls = _; rw [upd_ne n.ls_a]; exact G.sd
    to := by obtain ⟨k, h1, h2⟩ := G.to; exact ⟨k, by show upd _ _ _ d.lo = _; rw [upd_ne n.lo_a]; exact h1, h2.tx tx (tdats_map tdat_tch _)⟩
    nr := ⟨xs, by show upd _ _ _ l = _; rw [upd_ne (Ne.symm (nl a own_a))]; exact hl, hxs.tx tx (tdats_map tdat_room _)⟩
    wt := by obtain ⟨k, h1, h2⟩ := G.wt; exact ⟨k, by show upd _ _ _ d.lw = _; rw [upd_ne n.lw_a]; exact h1, h2⟩
    mt := by obtain ⟨k, h1, h2⟩ := G.mt; exact ⟨k, by show upd _ _ _ d.lm = _; rw [upd_ne n.lm_a]; exact h1, h2.tx tx (tdats_map tdat_met _)⟩
    nd := by
      have q := G.nd
      unfold Ad.own at q ⊢
      simp only [List.nodup_cons, List.mem_cons, not_or] at q ⊢
      obtain ⟨⟨q1, q2, q3, q4, q5, q6, q7, q8⟩, ⟨r1, r2, r3, r4, r5, r6, r7⟩, ⟨s1, s2, s3, s4, s5, s6⟩, ⟨t1, t2, t3, t4, t5⟩, ⟨u1, u2, u3, u4⟩, ⟨v1, v2, v3⟩, ⟨w1, w2⟩, x1, x2⟩ := q
      refine ⟨⟨q1, q2, q3, q4, nl _ own_a, q6, q7, q8⟩, ⟨r1, r2, r3, nl _ own_lb, r5, r6, r7⟩, ⟨s1, s2, nl _ own_lt, s4, s5, s6⟩, ⟨t1, nl _ own_ls, t3, t4, t5⟩, ⟨nl _ own_lo, u2, u3, u4⟩, ⟨Ne.symm (nl _ own_lw), Ne.symm (nl _ own_lm), fun h => hn (own_ts h)⟩, ⟨w1, w2⟩, x1, x2⟩ }
end
end LW
namespace LW
open PySem PySem.Spec PyProof.Rows L2 Evl
open LB (Deed Lf P Hd S Mk)
/-! ### methods -/
structure DfM (K : PySem.W.Frag) (C : Addr) (m qual : Str) (st : Stmt) (ps : List Str) : Prop where
  ex : ∃ f fd, Fun K m qual st f fd ∧ Cls K C ∧ Meth K C m f ∧ Binds K fd ps []
structure Mt (P : Program) (w : World) (K : PySem.W.Frag) (mg : Str → Option Value) (base : Heap) (k : Nat) (C : Addr) (m : Str) (sp : Sp) : Prop where
  ex : ∃ (CX : CXT) (f : Addr) (fd : FuncData) (ps : List Str), Cls K C ∧ Meth K C m f ∧ FnOk P w K mg base CX k f fd ps sp ∧ (CX = CX0 ∨ CX = L2.CX P w) ∧ Binds K fd ps []
structure MtX (P : Program) (w : World) (K : PySem.W.Frag) (mg : Str → Option Value) (base : Heap) (k : Nat) (C : Addr) (m : Str) (sp : Sp) : Prop where
  ex : ∃ (f : Addr) (fd : FuncData) (ps : List Str), Cls K C ∧ Meth K C m f ∧ FnOk P w K mg base (L2.CX P w) k f fd ps sp ∧ Binds K fd ps []
section
variable {P : Program} {w : World} {K : PySem.W.Frag} {mg : Str → Option Value} {base : Heap}
theorem DfM.mt {C : Addr} {m qual : Str} {st : Stmt} {ps N : List Str} {k : Nat} {sp : Sp} (D : DfM K C m qual st ps) (S : FnScope N ps (defScope st)) (len : ∀ vs H Q E, sp vs H Q E → vs.length = ps.length)
    (hbody : ∀ (f : Addr) (cdv : Value) (A : Around) (outer : List Env) (s : Shared) (H : Hp) (vs : List V) (Q : VK) (E : XK), Room k (A.deeper (envOfC qual (defScope st) s.heap.objs.size f cdv)) → sp vs H Q E →
      ∃ t, PSs (cxOf CX0 P w K mg base N qual (defScope st) f cdv A outer s H E).nox (defBody st) t ∧ t { nx := fun _ H' => Q .non H', rt := Q } (start N vs) H) : Mt P w K mg base (k + 1) C m sp := by
  obtain ⟨f, fd, F, hc, hm, hb⟩ := D.ex
  exact ⟨CX0, f, fd, ps, hc, hm, F.ok S len (hbody f), .inl rfl, hb⟩
theorem DfM.mtx {C : Addr} {m qual : Str} {st : Stmt} {ps N : List Str} {k : Nat} {sp : Sp} (D : DfM K C m qual st ps) (S : FnScope N ps (defScope st)) (len : ∀ vs H Q E, sp vs H Q E → vs.length = ps.length)
    (hbody : ∀ (f : Addr) (cdv : Value) (A : Around) (outer : List Env) (s : Shared) (H : Hp) (vs : List V) (Q : VK) (E : XK), Room k (A.deeper (envOfC qual (defScope st) s.heap.objs.size f cdv)) → sp vs H Q E →
      ∃ t, PSs (cxOf (L2.CX P w) P w K mg base N qual (defScope st) f cdv A outer s H E) (defBody st) t ∧ t { nx := fun _ H' => Q .non H', rt := Q } (start N vs) H) : MtX P w K mg base (k + 1) C m sp := by
  obtain ⟨f, fd, F, hc, hm, hb⟩ := D.ex
  exact ⟨f, fd, ps, hc, hm, F.okX S len (hbody f), hb⟩
theorem MtX.mono {C : Addr} {m : Str} {k : Nat} {sp sp' : Sp} (c : MtX P w K mg base k C m sp) (h : ∀ vs H Q E, sp' vs H Q E → sp vs H Q E) : MtX P w K mg base k C m sp' := by
  obtain ⟨f, fd, ps, hc, hm, F, hb⟩ := c.ex
  exact ⟨f, fd, ps, hc, hm, F.imp h, hb⟩
end
section
variable {X : Cx} {k j : Nat} {C : Addr} {m : Str} {sp : Sp} {pos apos : Pos} {e o : Expr} {es : List Expr} {ta : TE} {t : TA} {E : XK} {W : WX}
theorem pe_m {pl : Sem Bool} (c : Mt X.prog X.w X.K X.mg X.base k C m sp) (hr : Room j X.A) (hk : k ≤ j) (he : PE X o ta) (ha : PA X (e :: es) t)
    (hst : starEach (e :: es) X.env = (false, eval e X.env) :: starEach es X.env := by rfl) (hpl : (backTo pos (starEach es X.env)).any (·.1) = false := by rfl)
    (ht : eval (.Call (.Attribute o m apos) (e :: es) [] pos) X.env = (do
      let ov ← eval o X.env
      standAt apos.atName
      let (f, first) ← holding [ov] (getMethod ov m pl)
      callWith pos f first (backTo pos (starEach (e :: es) X.env)) (backToKw pos (keywordEach [] X.env))) := by rfl) :
    PE X (.Call (.Attribute o m apos) (e :: es) [] pos) (tMeth C m sp [] E0 ta t) := by
  obtain ⟨CX, f, fd, ps, hc, hm, F, hx, b⟩ := c.ex
  rcases hx with rfl | rfl
  · exact pe_meth (pl := pl) he hc hm F (hr.mono hk) b .nil pass0 ha hst hpl ht
  · exact pe_meth (pl := pl) he hc hm F (hr.mono hk) b .nil passL ha hst hpl ht
theorem pe_m0 {pl : Sem Bool} (c : Mt X.prog X.w X.K X.mg X.base k C m sp) (hr : Room j X.A) (hk : k ≤ j) (he : PE X o ta)
    (ht : eval (.Call (.Attribute o m apos) [] [] pos) X.env = (do
      let ov ← eval o X.env
      standAt apos.atName
      let (f, first) ← holding [ov] (getMethod ov m pl)
      callWith pos f first (backTo pos (starEach [] X.env)) (backToKw pos (keywordEach [] X.env))) := by rfl) :
    PE X (.Call (.Attribute o m apos) [] [] pos) (tMeth C m sp [] E0 ta tNil) := by
  obtain ⟨CX, f, fd, ps, hc, hm, F, hx, b⟩ := c.ex
  rcases hx with rfl | rfl
  · exact pe_meth0 (pl := pl) he hc hm F (hr.mono hk) b .nil pass0 ht
  · exact pe_meth0 (pl := pl) he hc hm F (hr.mono hk) b .nil passL ht
theorem pe_mx {pl : Sem Bool} (c : MtX X.prog X.w X.K X.mg X.base k C m sp) (hr : Room j X.A) (hk : k ≤ j) (he : PE X o ta) (tk : Takes X W) (hW : ∀ cls d σ H, E cls d H → W cls d σ H) (ha : PA X (e :: es) t)
    (hst : starEach (e :: es) X.env = (false, eval e X.env) :: starEach es X.env := by rfl) (hpl : (backTo pos (starEach es X.env)).any (·.1) = false := by rfl)
    (ht : eval (.Call (.Attribute o m apos) (e :: es) [] pos) X.env = (do
      let ov ← eval o X.env
      standAt apos.atName
      let (f, first) ← holding [ov] (getMethod ov m pl)
      callWith pos f first (backTo pos (starEach (e :: es) X.env)) (backToKw pos (keywordEach [] X.env))) := by rfl) :
    PE X (.Call (.Attribute o m apos) (e :: es) [] pos) (tMeth C m sp [] E ta t) := by
  obtain ⟨f, fd, ps, hc, hm, F, b⟩ := c.ex
  exact pe_meth (pl := pl) he hc hm F (hr.mono hk) b .nil (passes_call tk hW) ha hst hpl ht
end
/-- what the class has -/
structure GoC (K : PySem.W.Frag) (C : Addr) : Prop where
  cls : Cls K C
  na : ∀ f ∈ (["nearness", "far", "wrong", "width", "long", "boxes", "tables", "said", "beats", "touches", "nearest", "went", "met"] : List Str), NoAttr K C f
section
variable {K : PySem.W.Frag} {σ : L2.St} {H H' : Hp} {C a : Addr} {d : Ad} {m : Mk} {s : S} {z : Nat} {i : Nat} {f : Str} {v : V} {ta te : TE}
theorem ev_fld (G : GoAt K C H a d m s z) (c : GoC K C) (hv : σ[i]? = some (some (.ref a))) (hl : (goF m s.beats d).lookup f = some v) (hn : f ∈ (["nearness", "far", "wrong", "width", "long", "boxes", "tables", "said", "beats", "touches", "nearest", "went", "met"] : List Str)) : Ev (tFld K (tVar i) f) σ H v := fun H1 e Q q =>
  ⟨_, hv, a, C, d.dx, _, v, rfl, (G.ex e).ins, c.cls, c.na f hn, hl, q H1 (Ex.refl H1)⟩
theorem mem_f (j : Nat) (h : (["nearness", "far", "wrong", "width", "long", "boxes", "tables", "said", "beats", "touches", "nearest", "went", "met"] : List Str)[j]? = some f) : f ∈ (["nearness", "far", "wrong", "width", "long", "boxes", "tables", "said", "beats", "touches", "nearest", "went", "met"] : List Str) := List.mem_of_getElem? h
theorem f_near (G : GoAt K C H a d m s z) (c : GoC K C) (hv : σ[i]? = some (some (.ref a))) : ED K (tFld K (tVar i) "nearness") σ H (.int (m.near : Int)) := ed_ev (ev_fld G c hv rfl (mem_f 0 rfl)) (.int _)
theorem f_far (G : GoAt K C H a d m s z) (c : GoC K C) (hv : σ[i]? = some (some (.ref a))) : ED K (tFld K (tVar i) "far") σ H (.int (m.far : Int)) := ed_ev (ev_fld G c hv rfl (mem_f 1 rfl)) (.int _)
theorem f_wrong (G : GoAt K C H a d m s z) (c : GoC K C) (hv : σ[i]? = some (some (.ref a))) : ED K (tFld K (tVar i) "wrong") σ H (.int (m.wrong : Int)) := ed_ev (ev_fld G c hv rfl (mem_f 2 rfl)) (.int _)
theorem f_width (G : GoAt K C H a d m s z) (c : GoC K C) (hv : σ[i]? = some (some (.ref a))) : ED K (tFld K (tVar i) "width") σ H (.int (m.width : Int)) := ed_ev (ev_fld G c hv rfl (mem_f 3 rfl)) (.int _)
theorem f_long (G : GoAt K C H a d m s z) (c : GoC K C) (hv : σ[i]? = some (some (.ref a))) : ED K (tFld K (tVar i) "long") σ H (.int (m.long : Int)) := ed_ev (ev_fld G c hv rfl (mem_f 4 rfl)) (.int _)
theorem f_boxes (G : GoAt K C H a d m s z) (c : GoC K C) (hv : σ[i]? = some (some (.ref a))) : Ev (tFld K (tVar i) "boxes") σ H (.ref d.lb) := ev_fld G c hv rfl (mem_f 5 rfl)
theorem f_boxesD (G : GoAt K C H a d m s z) (c : GoC K C) (hv : σ[i]? = some (some (.ref a))) : ED K (tFld K (tVar i) "boxes") σ H (.list (s.boxes.map PyData.int)) := ed_ev (f_boxes G c hv) (.lst (sq_of G.bx) (ints_dps _))
theorem f_tables (G : GoAt K C H a d m s z) (c : GoC K C) (hv : σ[i]? = some (some (.ref a))) : Ev (tFld K (tVar i) "tables") σ H (.ref d.lt) := ev_fld G c hv rfl (mem_f 6 rfl)
theorem f_said (G : GoAt K C H a d m s z) (c : GoC K C) (hv : σ[i]? = some (some (.ref a))) : Ev (tFld K (tVar i) "said") σ H (.ref d.ls) := ev_fld G c hv rfl (mem_f 7 rfl)
theorem f_beats (G : GoAt K C H a d m s z) (c : GoC K C) (hv : σ[i]? = some (some (.ref a))) : ED K (tFld K (tVar i) "beats") σ H (.int s.beats) := ed_ev (ev_fld G c hv rfl (mem_f 8 rfl)) (.int _)
theorem f_touches (G : GoAt K C H a d m s z) (c : GoC K C) (hv : σ[i]? = some (some (.ref a))) : Ev (tFld K (tVar i) "touches") σ H (.ref d.lo) := ev_fld G c hv rfl (mem_f 9 rfl)
theorem f_nearest (G : GoAt K C H a d m s z) (c : GoC K C) (hv : σ[i]? = some (some (.ref a))) : Ev (tFld K (tVar i) "nearest") σ H (.ref d.ln) := ev_fld G c hv rfl (mem_f 10 rfl)
theorem f_nearestD (G : GoAt K C H a d m s z) (c : GoC K C) (hv : σ[i]? = some (some (.ref a))) : ED K (tFld K (tVar i) "nearest") σ H (.list (s.near.map roomD)) := by
  obtain ⟨xs, h1, h2⟩ := G.nr
  exact ed_ev (f_nearest G c hv) (.lst (sq_of h1) h2)
theorem f_went (G : GoAt K C H a d m s z) (c : GoC K C) (hv : σ[i]? = some (some (.ref a))) : Ev (tFld K (tVar i) "went") σ H (.ref d.lw) := ev_fld G c hv rfl (mem_f 11 rfl)
theorem f_met (G : GoAt K C H a d m s z) (c : GoC K C) (hv : σ[i]? = some (some (.ref a))) : Ev (tFld K (tVar i) "met") σ H (.ref d.lm) := ev_fld G c hv rfl (mem_f 12 rfl)
/-- a method is called -/
theorem m_call {sp : Sp} {E : XK} {tr : TA} {ds : List PyData} {Q : VK} {mm : Str} (G : GoAt K C H a d m s z) (hv : σ[i]? = some (some (.ref a))) (hl : (goF m s.beats d).lookup mm = none) (ha : EDA K tr σ H ds) (k : ∀ vs H1, Ex H H1 → DpAll K H1 vs ds → sp (.ref a :: (vs ++ [])) H1 Q E) : tMeth C mm sp [] E (tVar i) tr σ H Q :=
  ⟨_, hv, a, d.dx, _, rfl, G.ins, hl, ha H (Ex.refl H) _ k⟩
end
/-- a method that changes nothing -/
def spM0 (K : PySem.W.Frag) (C : Addr) (n : Nat) (R : Mk → S → List PyData → PyData → Prop) : Sp := fun vs H Q _ => vs.length = n + 1 ∧ ∃ a ws d m s z ds r, vs = .ref a :: ws ∧ GoAt K C H a d m s z ∧ DpAll K H ws ds ∧ R m s ds r ∧ ∀ v H', Ex H H' → Dp K H' v r → Q v H'
/-- one that leads from s to s' -/
def spM (K : PySem.W.Frag) (C : Addr) (n : Nat) (R : Mk → S → List PyData → S → PyData → Prop) : Sp := fun vs H Q _ => vs.length = n + 1 ∧ ∃ a ws d m s z ds s' r, vs = .ref a :: ws ∧ GoAt K C H a d m s z ∧ DpAll K H ws ds ∧ R m s ds s' r ∧
  ∀ v d' H', GoAt K C H' a d' m s' z → Nx a d H d' H' → Dp K H' v r → Q v H'
section
variable {K : PySem.W.Frag} {σ : L2.St} {H H' : Hp} {C a : Addr} {d : Ad} {m : Mk} {s : S} {z : Nat} {i : Nat} {ds : List PyData} {r : PyData} {mm : Str} {tr : TA}
theorem ed_m0 {n : Nat} {R : Mk → S → List PyData → PyData → Prop} {E : XK} (G : GoAt K C H a d m s z) (hv : σ[i]? = some (some (.ref a))) (ha : EDA K tr σ H ds) (hR : R m s ds r) (hl : (goF m s.beats d).lookup mm = none := by rfl) (hn : ds.length = n := by rfl) : ED K (tMeth C mm (spM0 K C n R) [] E (tVar i) tr) σ H r := fun H1 e Q q =>
  m_call (G.ex e) hv hl (fun H2 e2 => ha H2 (e.trans e2)) fun vs H2 e2 hvs => ⟨by rw [List.append_nil, List.length_cons, dps_len hvs, hn], a, vs, d, m, s, z, ds, r, by rw [List.append_nil], G.ex (e.trans e2), hvs, hR, fun v H3 e3 hv => q v H3 (e2.trans e3) hv⟩
/-- a statement's call that leads on -/
theorem m_go {n : Nat} {R : Mk → S → List PyData → S → PyData → Prop} {E : XK} {Q : VK} {s' : S} (G : GoAt K C H a d m s z) (hv : σ[i]? = some (some (.ref a))) (ha : EDA K tr σ H ds) (hR : R m s ds s' r) (k : ∀ v d' H', GoAt K C H' a d' m s' z → Nx a d H d' H' → Dp K H' v r → Q v H') (hl : (goF m s.beats d).lookup mm = none := by rfl) (hn : ds.length = n := by rfl) :
    tMeth C mm (spM K C n R) [] E (tVar i) tr σ H Q :=
  m_call G hv hl ha fun vs H2 e2 hvs => ⟨by rw [List.append_nil, List.length_cons, dps_len hvs, hn], a, vs, d, m, s, z, ds, s', r, by rw [List.append_nil], G.ex e2, hvs, hR, fun v d' H3 G3 x hv => k v d' H3 G3 ((Nx.ex e2).trans x) hv⟩
theorem ed_selfL {l : Addr} {is : List Int} {te : TE} (h : Ev te σ H (.ref l)) (hl : H l = some (.lst (is.map V.int))) : ED K te σ H (.list (is.map PyData.int)) := ed_ev h (.lst (sq_of hl) (ints_dps _))
end
section
variable {Pg : Program} {w : World} {K : PySem.W.Frag} {mg : Str → Option Value} {base : Heap} {dF dB aSt aOt aMm C : Addr}
abbrev s_Going_cell_told : Stmt := inClass (top 51) 5
theorem sc_Going_cell_told : FnScope ["self", "step", "boxes"] ["self", "step", "boxes"] (defScope s_Going_cell_told) := ⟨rfl, rfl, rfl, by decide +kernel, rfl, by decide +kernel, by decide +kernel⟩
/-- the cell that a step of the tables tells -/
def tabOf : Lf → Option (Nat × Nat)
  | .take _ t c => some (t, c)
  | .put t c _ => some (t, c)
  | .touch t c => some (t, c)
  | _ => none
def R_cell_told (m : Mk) (s : S) (ds : List PyData) (r : PyData) : Prop := ∃ (x : Lf) (bx : List Int) (t c : Nat), ds = [.tuple (lfD x), .list (bx.map PyData.int)] ∧ tabOf x = some (t, c) ∧ c < bx.length ∧ r = .tuple [nD t, .int (bx.getD c 0)]
theorem m_cell_told (D : DfM K C "cell_told" "Going.cell_told" s_Going_cell_told ["self", "step", "boxes"]) (T : Txt K mg w dF dB aSt aOt aMm) : Mt Pg w K mg base 1 C "cell_told" (spM0 K C 2 R_cell_told) := by
  refine D.mt sc_Going_cell_told (fun vs H Q E h => h.1) (fun f cdv A outer s H vs Q E hr h => ?_)
  refine ⟨_, (pss_cons (ps_if (pt_cmpR op_eq (pe_ix ix_tup (pv 1) pe_int (fun _ _ => rfl)) pe_str (nomark _)) (pss_one (ps_ret (pe_tup (pa_cons (pe_ix ix_tup (pv 1) pe_int (fun _ _ => rfl)) (pa_cons (pe_ix ix_list (pv 2) (pe_ix ix_tup (pv 1) pe_int (fun _ _ => rfl)) (fun _ _ => rfl)) pa_nil))))) pss_nil)
    (pss_one (ps_ret (pe_tup (pa_cons (pe_ix ix_tup (pv 1) pe_int (fun _ _ => rfl)) (pa_cons (pe_ix ix_list (pv 2) (pe_ix ix_tup (pv 1) pe_int (fun _ _ => rfl)) (fun _ _ => rfl)) pa_nil))))))
    , ?_⟩
  obtain ⟨_, a, ws, d, m, st, z, ds, r, rfl, G, hds, ⟨x, bx, t, c, rfl, ht, hc, rfl⟩, k⟩ := h
  obtain ⟨y1, y2, rfl, h1, h2⟩ := dps2 hds
  have tn : ∀ {b : Bool}, decide (hdN (.lf x) = ("take" : Str)) = b → EvT (tTest (tOp rEq (tOp (rIxT K) (tVar 1) (tC (.int 0))) (tC (.str "take")))) (start ["self", "step", "boxes"] [.ref a, y1, y2]) H b := fun hb => et_d (ed_eqS (ed_ixT (ed_var rfl h1) ed_int (hdD_at0 (.lf x))) (ed_c (.str "take")) hb)
  cases x with
  | take b t' c' =>
    cases ht
    exact q_yes (tn rfl) rfl fun H1 e1 => sd_ret (ed_tup (eda_cons (ed_ixT (ed_var rfl (h1.ex e1)) ed_int rfl) (eda_cons (ed_box (ed_var rfl (h2.ex e1)) (ed_ixT (ed_var rfl (h1.ex e1)) (ed_int (i := 3)) rfl) hc) eda_nil)) (Nat.le_of_ble_eq_true rfl)) fun v H2 e2 => k v H2 (e1.trans e2)
  | put t' c' d' =>
    cases ht
    exact q_not (tn rfl) rfl fun H1 e1 => sd_ret (ed_tup (eda_cons (ed_ixT (ed_var rfl (h1.ex e1)) ed_int rfl) (eda_cons (ed_box (ed_var rfl (h2.ex e1)) (ed_ixT (ed_var rfl (h1.ex e1)) (ed_int (i := 2)) rfl) hc) eda_nil)) (Nat.le_of_ble_eq_true rfl)) fun v H2 e2 => k v H2 (e1.trans e2)
  | touch t' c' =>
    cases ht
    exact q_not (tn rfl) rfl fun H1 e1 => sd_ret (ed_tup (eda_cons (ed_ixT (ed_var rfl (h1.ex e1)) ed_int rfl) (eda_cons (ed_box (ed_var rfl (h2.ex e1)) (ed_ixT (ed_var rfl (h1.ex e1)) (ed_int (i := 2)) rfl) hc) eda_nil)) (Nat.le_of_ble_eq_true rfl)) fun v H2 e2 => k v H2 (e1.trans e2)
  | deed d' => cases ht
  | tell c' => cases ht
  | idle n => cases ht
abbrev s_Going_beats_more : Stmt := inClass (top 51) 4
theorem sc_Going_beats_more : FnScope ["self", "step", "found"] ["self", "step", "found"] (defScope s_Going_beats_more) := ⟨rfl, rfl, rfl, by decide +kernel, rfl, by decide +kernel, by decide +kernel⟩
def R_beats_more (m : Mk) (s : S) (ds : List PyData) (r : PyData) : Prop := ∃ dd : Deed, ds = [.tuple (deedD dd), .int (LB.deedW xr dd s.boxes)] ∧ dd.ok ∧ s.boxes.length = 32 ∧ r = .int (LB.moreW xr bt m dd s.boxes)
theorem m_beats_more (D : DfM K C "beats_more" "Going.beats_more" s_Going_beats_more ["self", "step", "found"]) (T : Txt K mg w dF dB aSt aOt aMm) (c : GoC K C) : Mt Pg w K mg base 1 C "beats_more" (spM0 K C 2 R_beats_more) := by
  refine D.mt sc_Going_beats_more (fun vs H Q E h => h.1) (fun f cdv A outer s H vs Q E hr h => ?_)
  refine ⟨_, (pss_cons (ps_if (PW.pt (pw_or (pt_cmpR op_eq (pe_fld (pv 0) rfl) pe_int (nomark _)) (pw_or1 (pt_cmpR op_notIn_seq (pe_ix ix_tup (pv 1) pe_int (fun _ _ => rfl)) (pe_tup (pa_cons pe_str (pa_cons pe_str pa_nil))) (by rfl))))) (pss_one (ps_ret pe_int)) pss_nil)
    (pss_one (ps_ret (pe_ifExp (pt_cmpR op_eq (pe_ix ix_tup (pv 1) pe_int (fun _ _ => rfl)) pe_str (nomark _)) (pv 2) (pe_bits (pe_ix ix_list (pe_fld (pv 0) rfl) (pe_ix ix_tup (pv 1) pe_int (fun _ _ => rfl)) (fun _ _ => rfl)))))))
    , ?_⟩
  obtain ⟨_, a, ws, d, m, st, z, ds, r, rfl, G, hds, ⟨dd, rfl, hok, hl, rfl⟩, k⟩ := h
  obtain ⟨y1, y2, rfl, h1, h2⟩ := dps2 hds
  have nm : ∀ {H1 : Hp}, Ex H H1 → ED K (tOp (rIxT K) (tVar 1) (tC (.int 0))) (start ["self", "step", "found"] [.ref a, y1, y2]) H1 (.str (nmD dd)) := fun e => ed_ixT (ed_var rfl (h1.ex e)) ed_int (hdD_at0 (.lf (.deed dd)))
  have ni : ∀ {b : Bool}, (!inV (.str (nmD dd)) [.str "times", .str "parts"]) = b → EvT (tTest (tOp (rIn K true) (tOp (rIxT K) (tVar 1) (tC (.int 0))) (tTup (tCons (tC (.str "times")) (tCons (tC (.str "parts")) tNil))))) (start ["self", "step", "found"] [.ref a, y1, y2]) H b := fun hb => by
    have q := et_d (ed_niT (K := K) (nm (Ex.refl H)) (ed_tup (eda_cons (ed_c (.str "times")) (eda_cons (ed_c (.str "parts")) eda_nil)) (Nat.le_of_ble_eq_true rfl)) (x := .str (nmD dd)) (xs := [.str "times", .str "parts"]) rfl rfl rfl rfl rfl)
    rw [hb] at q
    exact q
  have t0 : EvT (tTest (tOp rEq (tFld K (tVar 0) "long") (tC (.int 0)))) (start ["self", "step", "found"] [.ref a, y1, y2]) H (decide (m.long = 0)) := et_is (et_d (ed_eqI (f_long G c rfl) ed_int)) (by congr 1; exact propext ⟨fun h => by omega, fun h => by omega⟩)
  by_cases hz : m.long = 0
  · refine q_yes (b := true) (et_or (a := true) (b := true) (et_is t0 (decide_eq_true hz)) fun h => by cases h) rfl fun H1 e1 => sd_ret (d := .int (LB.moreW xr bt m dd st.boxes)) (ed_is ed_int ?_) fun v H2 e2 => k v H2 (e1.trans e2)
    cases dd with
    | op2 o b c d => cases o <;> simp [LB.moreW, hz]
    | _ => rfl
  · skip
    cases dd with
    | set b n => exact q_yes (b := true) (et_or (a := false) (b := true) (et_is t0 (decide_eq_false hz)) fun _ => ni rfl) rfl fun H1 e1 => sd_ret (d := .int (LB.moreW xr bt m (.set b n) st.boxes)) (ed_is ed_int rfl) fun v H2 e2 => k v H2 (e1.trans e2)
    | copy b n => exact q_yes (b := true) (et_or (a := false) (b := true) (et_is t0 (decide_eq_false hz)) fun _ => ni rfl) rfl fun H1 e1 => sd_ret (d := .int (LB.moreW xr bt m (.copy b n) st.boxes)) (ed_is ed_int rfl) fun v H2 e2 => k v H2 (e1.trans e2)
    | pick b n e f => exact q_yes (b := true) (et_or (a := false) (b := true) (et_is t0 (decide_eq_false hz)) fun _ => ni rfl) rfl fun H1 e1 => sd_ret (d := .int (LB.moreW xr bt m (.pick b n e f) st.boxes)) (ed_is ed_int rfl) fun v H2 e2 => k v H2 (e1.trans e2)
    | op2 o b e f =>
      cases o with
      | add => exact q_yes (b := true) (et_or (a := false) (b := true) (et_is t0 (decide_eq_false hz)) fun _ => ni rfl) rfl fun H1 e1 => sd_ret (d := .int (LB.moreW xr bt m (.op2 .add b e f) st.boxes)) (ed_is ed_int rfl) fun v H2 e2 => k v H2 (e1.trans e2)
      | sub => exact q_yes (b := true) (et_or (a := false) (b := true) (et_is t0 (decide_eq_false hz)) fun _ => ni rfl) rfl fun H1 e1 => sd_ret (d := .int (LB.moreW xr bt m (.op2 .sub b e f) st.boxes)) (ed_is ed_int rfl) fun v H2 e2 => k v H2 (e1.trans e2)
      | less => exact q_yes (b := true) (et_or (a := false) (b := true) (et_is t0 (decide_eq_false hz)) fun _ => ni rfl) rfl fun H1 e1 => sd_ret (d := .int (LB.moreW xr bt m (.op2 .less b e f) st.boxes)) (ed_is ed_int rfl) fun v H2 e2 => k v H2 (e1.trans e2)
      | same => exact q_yes (b := true) (et_or (a := false) (b := true) (et_is t0 (decide_eq_false hz)) fun _ => ni rfl) rfl fun H1 e1 => sd_ret (d := .int (LB.moreW xr bt m (.op2 .same b e f) st.boxes)) (ed_is ed_int rfl) fun v H2 e2 => k v H2 (e1.trans e2)
      | mix => exact q_yes (b := true) (et_or (a := false) (b := true) (et_is t0 (decide_eq_false hz)) fun _ => ni rfl) rfl fun H1 e1 => sd_ret (d := .int (LB.moreW xr bt m (.op2 .mix b e f) st.boxes)) (ed_is ed_int rfl) fun v H2 e2 => k v H2 (e1.trans e2)
      | times =>
        refine q_not (b := false) (et_or (a := false) (b := false) (et_is t0 (decide_eq_false hz)) fun _ => ni rfl) rfl fun H1 e1 => ?_
        refine sd_ret (d := .int (LB.moreW xr bt m (.op2 .times b e f) st.boxes)) (ed_if (b := false) (et_d (ed_eqS (nm e1) (ed_c (.str "parts")) rfl)) (fun h => by cases h) fun _ => ed_is (ed_bits (ed_box (f_boxesD (G.ex e1) c rfl) (ed_ixT (ed_var rfl (h1.ex e1)) (ed_int (i := 3)) rfl) (by have := hok.2.2; omega))) ?_) fun v H2 e2 => k v H2 (e1.trans e2)
        show _ = PyData.int (if m.long = 0 then 0 else bt (st.boxes.getD f 0))
        rw [if_neg hz]
      | parts =>
        refine q_not (b := false) (et_or (a := false) (b := false) (et_is t0 (decide_eq_false hz)) fun _ => ni rfl) rfl fun H1 e1 => ?_
        refine sd_ret (d := .int (LB.moreW xr bt m (.op2 .parts b e f) st.boxes)) (ed_if (b := true) (et_d (ed_eqS (nm e1) (ed_c (.str "parts")) rfl)) (fun _ => ed_is (ed_var rfl (h2.ex e1)) ?_) (fun h => by cases h)) fun v H2 e2 => k v H2 (e1.trans e2)
        show PyData.int _ = PyData.int (if m.long = 0 then 0 else LB.opW xr .parts (st.boxes.getD e 0) (st.boxes.getD f 0))
        rw [if_neg hz]
        rfl
end
end LW
namespace LW
open PySem PySem.Spec PyProof.Rows L2 Evl
open LB (Deed Lf P Hd S Mk)
section
variable {K : PySem.W.Frag} {σ : L2.St} {H H' : Hp} {C a : Addr} {d : Ad} {m : Mk} {s : S} {z : Nat} {i : Nat} {f : Str} {v : V} {ta tb te : TE} {ds es : List PyData} {D : Ends} {tz : TS} {g : TG} {dt : PyData}
theorem qd_append {l : Addr} {xs : List V} (hl : H l = some (.lst xs)) (ha : Ev ta σ H (.ref l)) (h : ED K te σ H dt) (hz : xs.length < 100000) (k : ∀ y H1, Ex H H1 → Dp K H1 y dt → tz D σ (upd H1 l (.lst (xs ++ [y])))) :
    tSeq (tDrop (tBM K "list" rAppend ta (tCons te tNil))) tz D σ H := sd_append (D := { D with nx := tz D }) hl ha h hz k
theorem q_setL {l : Addr} {xs : List V} {j : Nat} (hl : H l = some (.lst xs)) (h : Ev te σ H v) (ho : Ev ta σ H (.ref l)) (hi : Ev tb σ H (.int (j : Int))) (hj : j < xs.length) (k : ∀ H1, Ex H H1 → tz D σ (upd H1 l (.lst (xs.set j v)))) :
    tSeq (tAsg te (gSub ta tb rSetL)) tz D σ H := s_setL (D := { D with nx := tz D }) hl h ho hi hj k
/-- any target -/
theorem qd_asgG (h : ED K te σ H dt) (k : ∀ v H1, Ex H H1 → Dp K H1 v dt → ∃ σ2, Tk g v σ H1 σ2 ∧ tz D σ2 H1) : tSeq (tAsg te g) tz D σ H := h H (Ex.refl H) _ fun v H1 e hv => by
  obtain ⟨σ2, t1, t2⟩ := k v H1 e hv
  exact t1 _ t2
theorem edl_cat (ha : EDL K ta σ H ds) (hb : EDL K tb σ H es) (hz : ds.length + es.length ≤ 100000) : EDL K (tOp rCat ta tb) σ H (ds ++ es) := fun H1 e Q q =>
  ha H1 e _ fun p xs H2 hp e2 h2 hx => hb H2 (e.trans e2) _ fun p' ys H3 hp' e3 h3 hy => ⟨p, p', xs, ys, rfl, rfl, e3 _ _ h2, h3, sz_of (by rw [dps_len hx, dps_len hy]; exact hz), fun t ht => q t (xs ++ ys) _ (fresh_back (e2.trans e3) ht) ((e2.trans e3).trans (Ex.new ht)) upd_same ((dps_app (hx.ex e3) hy).ex (Ex.new ht))⟩
theorem edl_copyL (ha : ED K ta σ H (.list ds)) : EDL K (tCB (rListS K) (tCons ta tNil)) σ H ds := fun H1 e Q q =>
  ha H1 e _ fun x H2 e2 hx => by
    obtain ⟨p, xs, rfl, hs, hxs⟩ := dp_lst hx
    exact ⟨p, xs, rfl, .inl hs, fun l hl => q l xs _ (fresh_back e2 hl) (e2.trans (Ex.new hl)) upd_same (hxs.ex (Ex.new hl))⟩
theorem edl_copyT (ha : ED K ta σ H (.tuple ds)) : EDL K (tCB (rListS K) (tCons ta tNil)) σ H ds := fun H1 e Q q =>
  ha H1 e _ fun x H2 e2 hx => by
    obtain ⟨p, xs, rfl, hs, hxs⟩ := dp_tup hx
    exact ⟨p, xs, rfl, .inr hs, fun l hl => q l xs _ (fresh_back e2 hl) (e2.trans (Ex.new hl)) upd_same (hxs.ex (Ex.new hl))⟩
theorem ed_inD {ds : List PyData} (ha : ED K ta σ H dt) (hb : ED K tb σ H (.list ds)) (s1 : SeqAt.shaped dt = true) (s2 : SeqAt.shaped (.list ds) = true) : ED K (tOp (rInD K) ta tb) σ H (.bool (ds.any fun z => PyData.eqv z dt)) := ed_op ha hb fun H1 _ x y hx hy Q q =>
  ⟨dt, ds, hx, hy, s1, s2, q _ H1 (Ex.refl H1) (.bl _)⟩
theorem GoAt.there (G : GoAt K C H a d m s z) : ∀ b ∈ d.own a, ∃ o, H b = some o := fun b hb => by
  unfold Ad.own at hb
  simp only [List.mem_cons] at hb
  rcases hb with rfl | rfl | rfl | rfl | rfl | rfl | rfl | rfl | hb
  · exact ⟨_, G.ins⟩
  · exact ⟨_, G.bx⟩
  · exact ⟨_, G.tb⟩
  · exact ⟨_, G.sd⟩
  · obtain ⟨_, h, _⟩ := G.to; exact ⟨_, h⟩
  · obtain ⟨_, h, _⟩ := G.nr; exact ⟨_, h⟩
  · obtain ⟨_, h, _⟩ := G.wt; exact ⟨_, h⟩
  · obtain ⟨_, h, _⟩ := G.mt; exact ⟨_, h⟩
  · obtain ⟨i, hi⟩ := List.getElem?_of_mem hb
    have hl : i < s.tabs.length := by rw [← G.tn]; exact (List.getElem?_eq_some_iff.mp hi).1
    exact ⟨_, G.ta i b _ hi (List.getElem?_eq_getElem hl)⟩
theorem GoAt.fresh (G : GoAt K C H a d m s z) {l : Addr} (h : H l = none) : l ∉ d.own a := fun hl => by
  obtain ⟨o, e⟩ := G.there l hl
  rw [h] at e
  cases e
/-- self.nearest = .. -/
theorem qd_setNear {r : List (Int × Int)} (G : GoAt K C H a d m s z) (c : GoC K C) (hv : σ[i]? = some (some (.ref a))) (h : EDL K te σ H (r.map roomD)) (k : ∀ l H1, GoAt K C H1 a { d with ln := l } m { s with near := r } z → Nx a d H { d with ln := l } H1 → Tx H H1 → tz D σ H1) : tSeq (sFld K (tVar i) te "nearest") tz D σ H :=
  h H (Ex.refl H) _ fun l xs H1 hl e1 h1 h2 => ⟨_, hv, a, C, d.dx, _, rfl, (G.ex e1).ins, c.cls, c.na _ (mem_f 10 rfl), (by show 13 < 1000; decide), by
    have hn := G.fresh hl
    have G1 := (G.ex e1).setNr h1 h2 hn
    have nx : Nx a d H { d with ln := l } (upd H1 a (.ins C d.dx (goF m s.beats { d with ln := l }))) := ⟨fun b o e n => (Nx.upd own_a).fr b o (e1 b o e) n, fun b hb => by
      unfold Ad.own at hb ⊢
      simp only [List.mem_cons] at hb ⊢
      rcases hb with h | h | h | h | h | rfl | h | h | h
      · exact .inl (.inl h)
      · exact .inl (.inr (.inl h))
      · exact .inl (.inr (.inr (.inl h)))
      · exact .inl (.inr (.inr (.inr (.inl h))))
      · exact .inl (.inr (.inr (.inr (.inr (.inl h)))))
      · exact .inr hl
      · exact .inl (.inr (.inr (.inr (.inr (.inr (.inr (.inl h)))))))
      · exact .inl (.inr (.inr (.inr (.inr (.inr (.inr (.inr (.inl h))))))))
      · exact .inl (.inr (.inr (.inr (.inr (.inr (.inr (.inr (.inr h))))))))⟩
    exact k l _ G1 nx (nx.tx G)⟩
/-- a table -/
theorem ev_tab {t : Nat} {t0 : Addr} (G : GoAt K C H a d m s z) (c : GoC K C) (hv : σ[i]? = some (some (.ref a))) (hb : ED K tb σ H (nD t)) (ht : d.ts[t]? = some t0) : Ev (tOp (rIxL K) (tFld K (tVar i) "tables") tb) σ H (.ref t0) :=
  ev_op (f_tables G c hv) (ev_edI hb) (rv_ixL (sq_of G.tb) (atI_nat (by rw [List.getElem?_map, ht]; rfl)))
theorem GoAt.tabAt {t : Nat} (G : GoAt K C H a d m s z) (ht : t < s.tabs.length) : ∃ t0, d.ts[t]? = some t0 ∧ H t0 = some (.lst ((s.tabs.getD t []).map V.int)) := by
  have hl : t < d.ts.length := by rw [G.tn]; exact ht
  refine ⟨_, List.getElem?_eq_getElem hl, G.ta t _ _ (List.getElem?_eq_getElem hl) ?_⟩
  rw [List.getD_eq_getElem?_getD, List.getElem?_eq_getElem ht]
  rfl
/-- self.tables[t][cell] -/
theorem ed_cell {t : Nat} {cl : Int} (G : GoAt K C H a d m s z) (c : GoC K C) (hv : σ[i]? = some (some (.ref a))) (hb : ED K tb σ H (nD t)) (hc : ED K te σ H (.int cl)) (g : LB.Good s.boxes s.tabs) (ht : t < 4) (w : LB.Wd cl) :
    ED K (tOp (rIxL K) (tOp (rIxL K) (tFld K (tVar i) "tables") tb) te) σ H (.int (LB.cellOf s.tabs t cl)) := by
  have htl : t < s.tabs.length := by rw [g.tn]; exact ht
  obtain ⟨t0, h1, h2⟩ := G.tabAt htl
  obtain ⟨w0, w1⟩ := w
  have hm : s.tabs.getD t [] ∈ s.tabs := by
    rw [List.getD_eq_getElem?_getD, List.getElem?_eq_getElem htl]
    exact List.getElem_mem htl
  have hc' : ED K te σ H (nD cl.toNat) := by
    show ED K te σ H (.int ((cl.toNat : Nat) : Int))
    rw [Int.toNat_of_nonneg w0]
    exact hc
  exact ed_box (bx := s.tabs.getD t []) (ed_selfL (ev_tab G c hv hb h1) h2) hc' (by rw [(g.tw _ hm).1]; omega)
end
def roomsOf (l : List (Int × Int)) (b : Int) : List (Int × Int × Int) := l.map fun t => (b, t.1, t.2)
theorem rooms_any (l : List (Int × Int)) (rm : Int × Int) : ((l.map roomD).any fun z => PyData.eqv z (roomD rm)) = decide (rm ∈ l) := by
  rw [List.any_map]
  have : ((fun z => PyData.eqv z (roomD rm)) ∘ roomD) = fun r => decide (r = rm) := funext fun r => eqv_enc roomD_inj plain_room r rm
  rw [this]
  induction l with
  | nil => rfl
  | cons r l ih =>
    rw [List.any_cons, ih]
    by_cases h : r = rm
    · simp [h]
    · simp [h, Ne.symm h]
theorem rooms_filter (l : List (Int × Int)) (rm : Int × Int) : (l.map roomD).filter (fun z => !PyData.eqv z (roomD rm)) = (l.filter fun one => decide (one ≠ rm)).map roomD := by
  rw [List.filter_map]
  congr 1
  refine List.filter_congr fun r _ => ?_
  show (!PyData.eqv (roomD r) (roomD rm)) = decide (r ≠ rm)
  rw [eqv_enc roomD_inj plain_room r rm]
  by_cases h : r = rm <;> simp [h]
section
variable {Pg : Program} {w : World} {K : PySem.W.Frag} {mg : Str → Option Value} {base : Heap} {dF dB aSt aOt aMm C : Addr}
abbrev s_Going_touch : Stmt := inClass (top 51) 6
theorem sc_Going_touch : FnScope ["self", "step", "boxes", "beat", "table", "cell", "room", "is_near", "one"] ["self", "step", "boxes", "beat"] (defScope s_Going_touch) := ⟨rfl, rfl, rfl, by decide +kernel, rfl, by decide +kernel, by decide +kernel⟩
/-- a state behind a touch of the room rm at beat b -/
def touched (m : Mk) (s : S) (b : Int) (rm : Int × Int) : S := { s with touches := s.touches ++ [(b, rm.1, rm.2)], near := LB.nearer m s.near rm }
def R_touch (m : Mk) (s : S) (ds : List PyData) (s' : S) (r : PyData) : Prop := ∃ (x : Lf) (bx : List Int) (b : Int) (t c : Nat), ds = [.tuple (lfD x), .list (bx.map PyData.int), .int b] ∧ tabOf x = some (t, c) ∧ c < bx.length ∧ s.near.length ≤ 1000 ∧ s.touches.length < 100000 ∧
  s' = touched m s b (LB.roomOf t (bx.getD c 0)) ∧ r = .bool (decide (LB.roomOf t (bx.getD c 0) ∈ s.near))
theorem m_touch (D : DfM K C "touch" "Going.touch" s_Going_touch ["self", "step", "boxes", "beat"]) (T : Txt K mg w dF dB aSt aOt aMm) (c : GoC K C) (m_cell_told : Mt Pg w K mg base 1 C "cell_told" (spM0 K C 2 R_cell_told)) : Mt Pg w K mg base 2 C "touch" (spM K C 3 R_touch) := by
  refine D.mt sc_Going_touch (fun vs H Q E h => h.1) (fun f cdv A outer s H vs Q E hr h => ?_)
  refine ⟨_, (pss_cons (ps_asg (pe_m m_cell_told hr (by omega) (pv 0) (pa_cons (pv 1) (pa_cons (pv 2) pa_nil))) (pg_tup rfl (pgs_cons (pg_name (i := 4) sc_Going_touch.nd rfl (Or.inl rfl)) (pgs_cons (pg_name (i := 5) sc_Going_touch.nd rfl (Or.inl rfl)) pgs_nil))))
    (pss_cons (ps_set (i := 6) sc_Going_touch.nd rfl (Or.inr rfl) (pe_tup (pa_cons (pv 4) (pa_cons (pe_op op_fdiv (pv 5) (pe_gc rfl T.g_ROOM)) pa_nil))))
    (pss_cons (ps_set (i := 7) sc_Going_touch.nd rfl (Or.inl rfl) (pe_cmpR (op_inD (huD hr)) (pv 6) (pe_fld (pv 0) rfl) (by rfl)))
    (pss_cons (ps_expr (pe_bm PySem.F.plainAttrs_list PySem.F.slot_list_append PySem.F.type_list_append mt_append (pe_fld (pv 0) rfl) (pa_cons (pe_tup (pa_cons (pv 3) (pa_cons (pv 4) (pa_cons (pe_op op_fdiv (pv 5) (pe_gc rfl T.g_ROOM)) pa_nil)))) pa_nil)))
    (pss_cons (ps_fld (pv 0) (pe_slice sl_list (pe_op op_cat (pe_lst (pa_cons (pv 6) pa_nil)) (pe_lc (own := [("one", 8)]) (g := (gName 8)) (by rfl) sc_Going_touch.nd (pi_list (pe_fld (pv 0) rfl)) (blkOk_by (own := [("one", 8)]) (N := ["self", "step", "boxes", "beat", "table", "cell", "room", "is_near", "one"]) (sc := defScope s_Going_touch) (by decide +kernel)) (fun _ _ _ _ _ => (pg_name (i := 8) sc_Going_touch.nd rfl (Or.inl rfl))) (fun _ _ _ _ _ => (pts_one (pt_cmpR (op_neDK K hr) (pv 8) (pv 6) (nomark _)))) (fun _ _ _ _ _ => (pv 8)))) po_none (po_some (pe_fld (pv 0) rfl))) rfl)
    (pss_one (ps_ret (pv 7))))))))
    , ?_⟩
  obtain ⟨_, a, ws, d, m, st, z, ds, s', r, rfl, G, hds, ⟨x, bx, b, t, cc, rfl, htab, hc, hnl, htl, rfl, rfl⟩, k⟩ := h
  obtain ⟨y1, y2, y3, rfl, h1, h2, h3⟩ := dps3 hds
  obtain rfl := dp_int h3
  refine qd_asgG (ed_m0 (K := K) (i := 0) (ds := [.tuple (lfD x), .list (bx.map PyData.int)]) (r := .tuple [nD t, .int (bx.getD cc 0)]) G rfl (eda_cons (ed_var rfl h1) (eda_cons (ed_var rfl h2) eda_nil)) ⟨x, bx, t, cc, rfl, htab, hc, rfl⟩) fun v H1 e1 hv => ?_
  obtain ⟨v1, v2, hv1, hv2, ht⟩ := tk_two (i := 4) (j := 5) hv (start ["self", "step", "boxes", "beat", "table", "cell", "room", "is_near", "one"] [.ref a, y1, y2, .int b])
  obtain rfl := dp_int hv1
  obtain rfl := dp_int hv2
  refine ⟨_, ht, ?_⟩
  have hrd : ∀ {σ : L2.St} {H2 : Hp}, σ[4]? = some (some (.int (t : Int))) → σ[5]? = some (some (.int (bx.getD cc 0))) → ED K (tTup (tCons (tVar 4) (tCons (tOp (rI CDiv fun i j => .int (i / j)) (tVar 5) (tC (.int 4))) tNil))) σ H2 (roomD (LB.roomOf t (bx.getD cc 0))) := fun h4 h5 => ed_tup (eda_cons (ed_var h4 (.int _)) (eda_cons (ed_fdiv (ed_var h5 (.int _)) (ed_c (.int 4)) ⟨by decide, by decide⟩) eda_nil)) (Nat.le_of_ble_eq_true rfl)
  refine qd_asg (K := K) (hrd rfl rfl) fun vr H2 e2 hvr => ?_
  have e02 := e1.trans e2
  have G2 := G.ex e02
  refine qd_asg (K := K) (d := .bool (decide (LB.roomOf t (bx.getD cc 0) ∈ st.near))) (ed_is (ed_inD (ed_var (i := 6) rfl hvr) (f_nearestD (i := 0) G2 c rfl) ((sh_room _).shaped) ((sh_lst (n := 1) (all_map fun r _ => sh_room r)).shaped)) (congrArg PyData.bool (rooms_any _ _))) fun vb H3 e3 hvb => ?_
  obtain rfl := dp_bl hvb
  have G3 := G2.ex e3
  obtain ⟨xo, ho1, ho2⟩ := G3.to
  refine qd_append (K := K) (dt := tchD (b, (t : Int), bx.getD cc 0 / 4)) ho1 (f_touches (i := 0) G3 c rfl) (ed_tup (eda_cons (ed_var (i := 3) rfl (.int _)) (eda_cons (ed_var (i := 4) rfl (.int _)) (eda_cons (ed_fdiv (ed_var (i := 5) rfl (.int _)) (ed_c (.int 4)) ⟨by decide, by decide⟩) eda_nil))) (Nat.le_of_ble_eq_true rfl)) (by rw [dps_len ho2, List.length_map]; exact htl) fun yt H4 e4 hyt => ?_
  have G4 : GoAt K C (upd H4 d.lo (.lst (xo ++ [yt]))) a d m { st with touches := st.touches ++ [(b, (t : Int), bx.getD cc 0 / 4)] } z := (G3.ex e4).setTo (by
    rw [List.map_append]
    exact dps_app (ho2.ex e4) (dps_one hyt))
  have n4 : Nx a d H d (upd H4 d.lo (.lst (xo ++ [yt]))) := (Nx.ex ((e02.trans e3).trans e4)).trans (Nx.upd own_lo)
  have tx4 : Tx H3 (upd H4 d.lo (.lst (xo ++ [yt]))) := ((Nx.ex e4).trans (Nx.upd own_lo)).tx G3
  have hvr4 := (hvr.ex e3).tx tx4 (tdat_room _)
  revert G4 n4 hvr4
  generalize upd H4 d.lo (.lst (xo ++ [yt])) = H5
  intro G5 n5 hvr5
  have hlc := edl_lc (K := K) (g := gName 8) (tt := tTest (tOp (rNeD K) (tVar 8) (tVar 6))) (vs := [8]) (te := tVar 8) (fun z => !PyData.eqv z (roomD (LB.roomOf t (bx.getD cc 0)))) id (it_lst (σ := [some (.ref a), some y1, some y2, some (.int b), some (.int (t : Int)), some (.int (bx.getD cc 0)), some vr, some (.bl (decide (LB.roomOf t (bx.getD cc 0) ∈ st.near))), none]) (f_nearestD (i := 0) G5 c rfl)) (by rw [List.length_map]; exact Nat.lt_of_le_of_lt hnl (by decide)) (fun q hq _ => by
      obtain ⟨r, _, rfl⟩ := List.mem_map.mp hq
      rfl) (fun j q v' H6 e6 hj hq => by
      have hm := List.mem_of_getElem? hj
      obtain ⟨r, _, rfl⟩ := List.mem_map.mp hm
      exact ⟨_, tk_one _, rfl, et_d (ed_neD (ed_var (i := 8) rfl hq) (ed_var (i := 6) rfl (hvr5.ex e6)) ((sh_room _).shaped) ((sh_room _).shaped)), fun _ => ed_var (i := 8) rfl hq⟩)
  rw [List.map_id, rooms_filter] at hlc
  have hcat := edl_cat (edl_lst (K := K) (eda_cons (ed_var (i := 6) rfl hvr5) eda_nil) (Nat.le_of_ble_eq_true rfl)) hlc (by
    rw [List.length_map]
    have := List.length_filter_le (fun one => decide (one ≠ LB.roomOf t (bx.getD cc 0))) st.near
    show 1 + _ ≤ _
    have h2 : st.near.length ≤ 1000 := hnl
    show 1 + (List.filter (fun one => decide (one ≠ LB.roomOf t (bx.getD cc 0))) st.near).length ≤ 100000
    omega)
  have hsl := edl_slL (tl := tNoPart) (th := tPart (tFld K (tVar 0) "nearness")) (ed_ofL hcat) eo_none (eo_d (f_near (i := 0) G5 c rfl))
  rw [cutUpto] at hsl
  refine qd_setNear (K := K) (i := 0) (r := LB.nearer m st.near (LB.roomOf t (bx.getD cc 0))) G5 c rfl ?_ fun l H6 G6 n6 tx6 => ?_
  · unfold LB.nearer
    rw [List.map_take]
    exact hsl
  · exact sd_ret (K := K) (ed_var (i := 7) rfl (.bl _)) fun v7 H7 e7 hv7 => k v7 _ H7 (G6.ex e7) ((n5.trans n6).trans (Nx.ex e7)) hv7
end
end LW
namespace LW
open PySem PySem.Spec PyProof.Rows L2 Evl
open LB (Deed Lf P Hd S Mk)
/-- what an exception of this class asks -/
structure TLF (K : PySem.W.Frag) (mg : Str → Option Value) (TL : Addr) : Prop where
  q : PySem.W.excIn K TL [.type "ValueError", .type "Exception", .type "BaseException", .type "object"] "ValueError.__new__" = true
  g : mg "TooLong" = some (.ref TL)
  k : PySem.W.keepIn K (.ref TL) = true
  b : PySem.W.subIn K (.ref TL) (.type "BaseException") = some true
  r : PySem.W.typeIn K (.ref TL) = some (.type "type")
/-- the state behind a step of the tables -/
def tabled (s : S) : Lf → S
  | .take b t c => { s with boxes := s.boxes.set b (LB.cellOf s.tabs t (s.boxes.getD c 0)) }
  | .put t c e => { s with tabs := s.tabs.set t ((s.tabs.getD t []).set (s.boxes.getD c 0).toNat (s.boxes.getD e 0)) }
  | _ => s
theorem tabOf_ok {x : Lf} {t c : Nat} (h : tabOf x = some (t, c)) (hx : x.ok) : t < 4 ∧ c < 32 := by
  cases x with
  | take b t' c' => cases h; exact ⟨hx.2.1, hx.2.2⟩
  | put t' c' e => cases h; exact ⟨hx.1, hx.2.1⟩
  | touch t' c' => cases h; exact hx
  | deed _ => cases h
  | tell _ => cases h
  | idle _ => cases h
section
variable {Pg : Program} {w : World} {K : PySem.W.Frag} {mg : Str → Option Value} {base : Heap} {dF dB aSt aOt aMm C TL : Addr}
abbrev s_Going_do_table : Stmt := inClass (top 51) 7
theorem sc_Going_do_table : FnScope ["self", "step", "table", "cell"] ["self", "step"] (defScope s_Going_do_table) := ⟨rfl, rfl, rfl, by decide +kernel, rfl, by decide +kernel, by decide +kernel⟩
def R_do_table (m : Mk) (s : S) (ds : List PyData) (s' : S) (r : PyData) : Prop := ∃ (x : Lf) (t c : Nat), ds = [.tuple (lfD x)] ∧ tabOf x = some (t, c) ∧ x.ok ∧ LB.Good s.boxes s.tabs ∧ s' = tabled s x ∧ r = .none
theorem m_do_table (D : DfM K C "do_table" "Going.do_table" s_Going_do_table ["self", "step"]) (T : Txt K mg w dF dB aSt aOt aMm) (c : GoC K C) (m_cell_told : Mt Pg w K mg base 1 C "cell_told" (spM0 K C 2 R_cell_told)) : Mt Pg w K mg base 2 C "do_table" (spM K C 1 R_do_table) := by
  refine D.mt sc_Going_do_table (fun vs H Q E h => h.1) (fun f cdv A outer s H vs Q E hr h => ?_)
  refine ⟨_, (pss_cons (ps_asg (pe_m m_cell_told hr (by omega) (pv 0) (pa_cons (pv 1) (pa_cons (pe_fld (pv 0) rfl) pa_nil))) (pg_tup rfl (pgs_cons (pg_name (i := 2) sc_Going_do_table.nd rfl (Or.inl rfl)) (pgs_cons (pg_name (i := 3) sc_Going_do_table.nd rfl (Or.inl rfl)) pgs_nil))))
    (pss_one (ps_if (pt_cmpR op_eq (pe_ix ix_tup (pv 1) pe_int (fun _ _ => rfl)) pe_str (nomark _)) (pss_one (ps_asg (pe_ix ix_list (pe_ix ix_list (pe_fld (pv 0) rfl) (pv 2) (fun _ _ => rfl)) (pv 3) (fun _ _ => rfl)) (pg_sub (pe_fld (pv 0) rfl) (pe_ix ix_tup (pv 1) pe_int (fun _ _ => rfl)) set_list))) (pss_one (ps_if (pt_cmpR op_eq (pe_ix ix_tup (pv 1) pe_int (fun _ _ => rfl)) pe_str (nomark _)) (pss_one (ps_asg (pe_ix ix_list (pe_fld (pv 0) rfl) (pe_ix ix_tup (pv 1) pe_int (fun _ _ => rfl)) (fun _ _ => rfl)) (pg_sub (pe_ix ix_list (pe_fld (pv 0) rfl) (pv 2) (fun _ _ => rfl)) (pv 3) set_list))) pss_nil)))))
    , ?_⟩
  obtain ⟨_, a, ws, d, m, st, z, ds, s', r, rfl, G, hds, ⟨x, t, cc, rfl, htab, hx, g, rfl, rfl⟩, k⟩ := h
  obtain ⟨y1, rfl, h1⟩ := dps1 hds
  obtain ⟨ht4, hc32⟩ := tabOf_ok htab hx
  refine qd_asgG (ed_m0 (K := K) (i := 0) (ds := [.tuple (lfD x), .list (st.boxes.map PyData.int)]) (r := .tuple [nD t, .int (st.boxes.getD cc 0)]) G rfl (eda_cons (ed_var rfl h1) (eda_cons (f_boxesD G c rfl) eda_nil)) ⟨x, st.boxes, t, cc, rfl, htab, by rw [g.n]; exact hc32, rfl⟩) fun v H1 e1 hv => ?_
  obtain ⟨v1, v2, hv1, hv2, htk⟩ := tk_two (i := 2) (j := 3) hv (start ["self", "step", "table", "cell"] [.ref a, y1])
  obtain rfl := dp_int hv1
  obtain rfl := dp_int hv2
  refine ⟨_, htk, ?_⟩
  have wW : ∀ c, LB.Wd (st.boxes.getD c 0) := fun c => LB.wd_getD g.w c
  have G1 := G.ex e1
  have tn : ∀ (zz : Str) {b : Bool}, decide (hdN (.lf x) = zz) = b → ∀ {H2 : Hp}, Ex H1 H2 → EvT (tTest (tOp rEq (tOp (rIxT K) (tVar 1) (tC (.int 0))) (tC (.str zz)))) [some (.ref a), some y1, some (.int (t : Int)), some (.int (st.boxes.getD cc 0))] H2 b := fun zz b hb H2 e => et_d (ed_eqS (ed_ixT (ed_var rfl (h1.ex (e1.trans e))) ed_int (hdD_at0 (.lf x))) (ed_c (.str zz)) hb)
  cases x with
  | take b t' c' =>
    cases htab
    refine s_if (b := true) (tn "take" rfl (Ex.refl H1)) (fun _ H2 e2 => ?_) (fun h => by cases h)
    have G2 := G1.ex e2
    refine s_setL (l := d.lb) (xs := st.boxes.map V.int) (j := b) (v := .int (LB.cellOf st.tabs t (st.boxes.getD cc 0))) G2.bx (ev_edI (ed_cell (i := 0) G2 c rfl (ed_var rfl (.int _)) (ed_var rfl (.int _)) g ht4 (wW cc))) (f_boxes (i := 0) G2 c rfl) (ev_edI (ed_ixT (ed_var rfl (h1.ex (e1.trans e2))) ed_int rfl)) (by rw [List.length_map, g.n]; exact hx.1) fun H3 e3 => ?_
    rw [← List.map_set]
    exact k _ d _ ((G2.ex e3).setBx _) ((Nx.ex ((e1.trans e2).trans e3)).trans (Nx.upd own_lb)) .non
  | put t' c' e' =>
    cases htab
    refine s_if (b := false) (tn "take" rfl (Ex.refl H1)) (fun h => by cases h) (fun _ H2 e2 => ?_)
    refine s_when (b := true) (tn "put" rfl e2) (fun _ H3 e3 => ?_) (fun h => by cases h)
    have G3 := (G1.ex e2).ex e3
    have htl : t < st.tabs.length := by rw [g.tn]; exact ht4
    obtain ⟨t0, q1, q2⟩ := G3.tabAt htl
    have hm : st.tabs.getD t [] ∈ st.tabs := by
      rw [List.getD_eq_getElem?_getD, List.getElem?_eq_getElem htl]
      exact List.getElem_mem htl
    obtain ⟨w0, w1⟩ := wW cc
    refine s_setL (l := t0) (xs := (st.tabs.getD t []).map V.int) (j := (st.boxes.getD cc 0).toNat) (v := .int (st.boxes.getD e' 0)) q2 (ev_edI (ed_box (f_boxesD (i := 0) G3 c rfl) (ed_ixT (ed_var rfl (h1.ex ((e1.trans e2).trans e3))) (ed_int (i := 3)) rfl) (by rw [g.n]; exact hx.2.2))) (ev_tab (i := 0) G3 c rfl (ed_var rfl (.int _)) q1) ?_ (by rw [List.length_map, (g.tw _ hm).1]; omega) fun H4 e4 => ?_
    · rw [Int.toNat_of_nonneg w0]
      exact ev_var rfl
    · rw [← List.map_set]
      exact k _ d _ ((G3.ex e4).setTb q1 _) ((Nx.ex (((e1.trans e2).trans e3).trans e4)).trans (Nx.upd (own_ts (List.mem_of_getElem? q1)))) .non
  | touch t' c' =>
    cases htab
    refine s_if (b := false) (tn "take" rfl (Ex.refl H1)) (fun h => by cases h) (fun _ H2 e2 => ?_)
    exact s_when (b := false) (tn "put" rfl e2) (fun h => by cases h) (fun _ H3 e3 => k _ d _ ((G1.ex e2).ex e3) (Nx.ex ((e1.trans e2).trans e3)) .non)
  | deed d' => cases htab
  | tell c' => cases htab
  | idle n => cases htab
abbrev s_Going_meet : Stmt := inClass (top 51) 1
theorem sc_Going_meet : FnScope ["self", "path", "more"] ["self", "path", "more"] (defScope s_Going_meet) := ⟨rfl, rfl, rfl, by decide +kernel, rfl, by decide +kernel, by decide +kernel⟩
def spMeet (K : PySem.W.Frag) (C TL : Addr) : Sp := fun vs H Q E => vs.length = 3 ∧ ∃ a x more d m s z path, vs = [.ref a, x, .int more] ∧ GoAt K C H a d m s z ∧ Dp K H x (pathD path) ∧ s.met.length ≤ 20000 ∧
  (s.met.length < 20000 → ∀ v H', GoAt K C H' a d m { s with met := s.met ++ [(path, s.beats)], beats := s.beats + more } z → Nx a d H d H' → Q v H') ∧ (s.met.length = 20000 → ∀ H', Ex H H' → E (.ref TL) none H')
theorem m_meet (D : DfM K C "meet" "Going.meet" s_Going_meet ["self", "path", "more"]) (T : Txt K mg w dF dB aSt aOt aMm) (c : GoC K C) (TL' : TLF K mg TL) : MtX Pg w K mg base 1 C "meet" (spMeet K C TL) := by
  refine D.mtx sc_Going_meet (fun vs H Q E h => h.1) (fun f cdv A outer s H vs Q E hr h => ?_)
  have tkx := takes_of (X := cxOf (L2.CX Pg w) Pg w K mg base ["self", "path", "more"] "Going.meet" (defScope s_Going_meet) f cdv A outer s H E) rfl rfl rfl rfl
  refine ⟨_, (pss_cons (ps_if (pt_cmpR op_eq (pe_callB call_len_seq (by rfl) T.n_len (by decide +kernel) (pa_cons (pe_fld (pv 0) rfl) pa_nil)) (pe_gc rfl T.g_MOST_EVENTS) (nomark _)) (pss_one (ps_raise rfl tkx (pmk_own PySem.F.excBase_ValueError TL'.q TL'.g TL'.k (raises_own TL'.b TL'.r) rfl))) pss_nil)
    (pss_cons (ps_expr (pe_bm PySem.F.plainAttrs_list PySem.F.slot_list_append PySem.F.type_list_append mt_append (pe_fld (pv 0) rfl) (pa_cons (pe_tup (pa_cons (pv 1) (pa_cons (pe_fld (pv 0) rfl) pa_nil))) pa_nil)))
    (pss_one (ps_fldaug (pv 0) (pv 2) in_add))))
    , ?_⟩
  obtain ⟨_, a, x, more, d, m, st, z, path, rfl, G, h1, hle, k, kx⟩ := h
  obtain ⟨xm, hm1, hm2⟩ := G.mt
  have ht : EvT (tTest (tOp rEq (tCB (rLenS K) (tCons (tFld K (tVar 0) "met") tNil)) (tC (.int 20000)))) (start ["self", "path", "more"] [.ref a, x, .int more]) H (decide (st.met.length = 20000)) := et_is (et_d (ed_eqI (ed_lenL (ed_ev (f_met (i := 0) G c rfl) (.lst (sq_of hm1) hm2))) (ed_c (.int 20000)))) (by
    rw [List.length_map]
    congr 1
    exact propext ⟨fun h => by omega, fun h => by omega⟩)
  by_cases he : st.met.length = 20000
  · exact q_yes ht (decide_eq_true he) fun H1 e1 => kx he H1 e1
  · refine q_not ht (decide_eq_false he) fun H1 e1 => ?_
    have G1 := G.ex e1
    refine qd_append (K := K) (dt := metD (path, st.beats)) (e1 _ _ hm1) (f_met (i := 0) G1 c rfl) (ed_tup (eda_cons (ed_var (i := 1) rfl (h1.ex e1)) (eda_cons (f_beats (i := 0) G1 c rfl) eda_nil)) (Nat.le_of_ble_eq_true rfl)) (by rw [dps_len hm2, List.length_map]; omega) fun y H2 e2 hy => ?_
    have G2 := (G1.ex e2).setMt (xs := xm ++ [y]) (l := st.met ++ [(path, st.beats)]) (by
      rw [List.map_append]
      exact dps_app (hm2.ex (e1.trans e2)) (dps_one hy))
    refine ⟨_, rfl, a, C, d.dx, _, _, rfl, G2.ins, c.cls, c.na _ (mem_f 8 rfl), rfl, _, rfl, st.beats, more, rfl, rfl, d.dx, _, G2.ins, (by show 13 < 1000; decide), ?_⟩
    exact k (by omega) _ _ (G2.setBe (st.beats + more)) (((Nx.ex (e1.trans e2)).trans (Nx.upd own_lm)).trans (Nx.upd own_a))
end
end LW
namespace LW
open PySem PySem.Spec PyProof.Rows L2 Evl
open LB (Deed Lf P Hd S Mk)
section
variable {K : PySem.W.Frag} {H H' H2 : Hp} {C a : Addr} {d d' : Ad} {m : Mk} {s : S} {z : Nat}
theorem GoAt.same (G : GoAt K C H a d m s z) (h : ∀ b ∈ d.own a, H' b = H b) (t : Tx H H') : GoAt K C H' a d m s z where
  ins := by rw [h _ own_a]; exact G.ins
  bx := by rw [h _ own_lb]; exact G.bx
  tb := by rw [h _ own_lt]; exact G.tb
  tn := G.tn
  ta := fun i t0 tab h1 h2 => by rw [h _ (own_ts (List.mem_of_getElem? h1))]; exact G.ta i t0 tab h1 h2
  sd := by rw [h _ own_ls]; exact G.sd
  to := by obtain ⟨k, h1, h2⟩ := G.to; exact ⟨k, by rw [h _ own_lo]; exact h1, h2.tx t (tdats_map tdat_tch _)⟩
  nr := by obtain ⟨k, h1, h2⟩ := G.nr; exact ⟨k, by rw [h _ own_ln]; exact h1, h2.tx t (tdats_map tdat_room _)⟩
  wt := by obtain ⟨k, h1, h2⟩ := G.wt; exact ⟨k, by rw [h _ own_lw]; exact h1, h2⟩
  mt := by obtain ⟨k, h1, h2⟩ := G.mt; exact ⟨k, by rw [h _ own_lm]; exact h1, h2.tx t (tdats_map tdat_met _)⟩
  nd := G.nd
theorem GoAt.mutOther (G : GoAt K C H a d m s z) {l : Addr} {xs : List V} {o : HO} (hl : H l = some (.lst xs)) (hn : l ∉ d.own a) : GoAt K C (upd H l o) a d m s z := G.same (fun b hb => upd_ne fun e => hn (e ▸ hb)) ((Tx.refl H).upd (.lst hl))
theorem Nx.mutFresh (x : Nx a d H d' H') {l : Addr} {o : HO} (hl : H l = none) : Nx a d H d' (L2.upd H' l o) := ⟨fun b u e n => by
    have hb : b ≠ l := fun q => by rw [q, hl] at e; cases e
    show L2.upd H' l o b = some u
    rw [upd_ne hb]
    exact x.fr b u e n, x.nw⟩
/-- what is fresh at the start and not owned stays so -/
theorem Nx.apart (x : Nx a d H d' H') {l : Addr} {o : HO} (hl : H l = some o) (hn : l ∉ d.own a) : l ∉ d'.own a := fun h => by
  rcases x.nw l h with q | q
  · exact hn q
  · rw [hl] at q; cases q
end
theorem tx_mut {H H' : Hp} (t : Tx H H') {l : Addr} {xs : List V} {o : HO} (hl : H' l = some (.lst xs)) : Tx H (upd H' l o) := t.trans ((Tx.refl H').upd (.lst hl))
def stopH : Hd → Bool
  | .lf (.deed _) => false
  | .lf (.take _ _ _) => false
  | .lf (.put _ _ _) => false
  | .lf (.touch _ _) => false
  | _ => true
def tabH : Hd → Bool
  | .lf (.take _ _ _) => true
  | .lf (.put _ _ _) => true
  | .lf (.touch _ _) => true
  | _ => false
theorem in_stops (h : Hd) : inV (.str (hdN h)) [.str "if", .str "round", .str "turn", .str "tell", .str "idle"] = stopH h := by
  cases h with
  | lf x =>
    cases x with
    | deed d =>
      cases d with
      | op2 o b c e => cases o <;> rfl
      | _ => rfl
    | _ => rfl
  | _ => rfl
theorem in_tabs (h : Hd) : inV (.str (hdN h)) [.str "take", .str "put", .str "touch"] = tabH h := by
  cases h with
  | lf x =>
    cases x with
    | deed d =>
      cases d with
      | op2 o b c e => cases o <;> rfl
      | _ => rfl
    | _ => rfl
  | _ => rfl
theorem begins_stop {m : Mk} {tabs : List (List Int)} {h : Hd} (hs : stopH h = true) (r : List Hd) (bx : List Int) (nr : List (Int × Int)) : LB.begins xr m tabs (h :: r) bx nr = (nr, []) := by
  cases h with
  | lf x =>
    cases x with
    | deed _ => cases hs
    | take _ _ _ => cases hs
    | put _ _ _ => cases hs
    | touch _ _ => cases hs
    | tell _ => rfl
    | idle _ => rfl
  | _ => rfl
theorem roomsOf_snoc (l : List (Int × Int)) (r : Int × Int) (b : Int) : roomsOf (l ++ [r]) b = roomsOf l b ++ [(b, r.1, r.2)] := by unfold roomsOf; rw [List.map_append]; rfl
theorem nearer_len (m : Mk) (nr : List (Int × Int)) (rm : Int × Int) : (LB.nearer m nr rm).length ≤ m.near := by unfold LB.nearer; rw [List.length_take]; exact Nat.min_le_left _ _
section
variable {K : PySem.W.Frag} {mg : Str → Option Value} {w : World} {dF dB aSt aOt aMm : Addr} {σ : L2.St} {H : Hp} {te : TE} {h : Hd}
theorem et_stops (T : Txt K mg w dF dB aSt aOt aMm) (hn : ED K te σ H (.str (hdN h))) : EvT (tTest (tOp (rIn K false) te (tC (.ref aSt)))) σ H (stopH h) :=
  et_d (ed_inT hn (ed_c (.tup T.stops.seq (.cons (.str _) (.cons (.str _) (.cons (.str _) (.cons (.str _) (.cons (.str _) .nil))))))) (x := .str (hdN h)) (xs := [.str "if", .str "round", .str "turn", .str "tell", .str "idle"]) (ds := [.str "if", .str "round", .str "turn", .str "tell", .str "idle"]) rfl rfl rfl rfl (in_stops h))
theorem et_tabs (T : Txt K mg w dF dB aSt aOt aMm) (hn : ED K te σ H (.str (hdN h))) : EvT (tTest (tOp (rIn K false) te (tC (.ref aOt)))) σ H (tabH h) :=
  et_d (ed_inT hn (ed_c (.tup T.oft.seq (.cons (.str _) (.cons (.str _) (.cons (.str _) .nil))))) (x := .str (hdN h)) (xs := [.str "take", .str "put", .str "touch"]) (ds := [.str "take", .str "put", .str "touch"]) rfl rfl rfl rfl (in_tabs h))
end
section
variable {Pg : Program} {w : World} {K : PySem.W.Frag} {mg : Str → Option Value} {base : Heap} {dF dB aSt aOt aMm C TL : Addr}
abbrev s_Going_begin : Stmt := inClass (top 51) 9
theorem sc_Going_begin : FnScope ["self", "steps", "beat", "boxes", "step", "table", "cell"] ["self", "steps", "beat"] (defScope s_Going_begin) := ⟨rfl, rfl, rfl, by decide +kernel, rfl, by decide +kernel, by decide +kernel⟩
def begun (m : Mk) (s : S) (p : P) (b : Int) : S := { s with near := (LB.begins xr m s.tabs (p.heads.take m.width) s.boxes s.near).1, touches := s.touches ++ roomsOf (LB.begins xr m s.tabs (p.heads.take m.width) s.boxes s.near).2 b }
def R_begin (m : Mk) (s : S) (ds : List PyData) (s' : S) (r : PyData) : Prop := ∃ (p : P) (n : Nat) (b : Int), ds = [.tuple (progD p), .int b] ∧ p.ok n ∧ LB.Good s.boxes s.tabs ∧ MkOk m ∧ s.near.length ≤ 1000 ∧ s.touches.length < 99990 ∧ s' = begun m s p b ∧ r = .none
structure BgP (K : PySem.W.Frag) (C a : Addr) (d : Ad) (m : Mk) (st : S) (z : Nat) (H H1 : Hp) (x : V) (b : Int) (lc : Addr) (L : List Hd) (i : Nat) (σ' : L2.St) (H' : Hp) : Prop where
  ex : ∃ (bx : List Int) (nr done : List (Int × Int)) (d' : Ad) (v4 v5 v6 : Option V), σ' = [some (.ref a), some x, some (.int b), some (.ref lc), v4, v5, v6] ∧ GoAt K C H' a d' m { st with near := nr, touches := st.touches ++ roomsOf done b } z ∧ Nx a d H d' H' ∧ lc ∉ d'.own a ∧
    H' lc = some (.lst (bx.map V.int)) ∧ bx.length = 32 ∧ (∀ i ∈ bx, LB.Wd i) ∧ Tx H1 H' ∧ nr.length ≤ 1000 ∧ done.length ≤ i ∧ i ≤ L.length ∧
    LB.begins xr m st.tabs L st.boxes st.near = ((LB.begins xr m st.tabs (L.drop i) bx nr).1, done ++ (LB.begins xr m st.tabs (L.drop i) bx nr).2)
theorem m_begin (D : DfM K C "begin" "Going.begin" s_Going_begin ["self", "steps", "beat"]) (T : Txt K mg w dF dB aSt aOt aMm) (c : GoC K C) (m_cell_told : Mt Pg w K mg base 1 C "cell_told" (spM0 K C 2 R_cell_told)) (m_touch : Mt Pg w K mg base 2 C "touch" (spM K C 3 R_touch))
    (c_deed_told : Cl Pg w K mg base 3 "deed_told" (spD K 2 R_deed_told)) : Mt Pg w K mg base 4 C "begin" (spM K C 2 R_begin) := by
  refine D.mt sc_Going_begin (fun vs H Q E h => h.1) (fun f cdv A outer s H vs Q E hr h => ?_)
  refine ⟨_, (pss_cons (ps_set (i := 3) sc_Going_begin.nd rfl (Or.inl rfl) (pe_callTy call_list_of (by rfl) T.n_list (by decide +kernel) (pa_cons (pe_fld (pv 0) rfl) pa_nil)))
    (pss_one (ps_for PassesOwn.never rfl (pi_tup (pe_slice sl_tupA (pv 1) po_none (po_some (pe_fld (pv 0) rfl)))) (pg_name (i := 4) sc_Going_begin.nd rfl (Or.inl rfl))
    (pss_cons (ps_if (pt_cmpR op_in_seq (pe_ix ix_tup (pv 4) pe_int (fun _ _ => rfl)) (pe_gc rfl T.g_STOPS) (by rfl)) (pss_one ps_retN) pss_nil)
    (pss_one (ps_if (pt_cmpR op_in_seq (pe_ix ix_tup (pv 4) pe_int (fun _ _ => rfl)) (pe_gc rfl T.g_OF_TABLES) (by rfl)) (pss_cons (ps_expr (pe_m m_touch hr (by omega) (pv 0) (pa_cons (pv 4) (pa_cons (pv 3) (pa_cons (pv 2) pa_nil)))))
    (pss_one (ps_if (pt_cmpR op_eq (pe_ix ix_tup (pv 4) pe_int (fun _ _ => rfl)) pe_str (nomark _)) (pss_cons (ps_asg (pe_m m_cell_told hr (by omega) (pv 0) (pa_cons (pv 4) (pa_cons (pv 3) pa_nil))) (pg_tup rfl (pgs_cons (pg_name (i := 5) sc_Going_begin.nd rfl (Or.inl rfl)) (pgs_cons (pg_name (i := 6) sc_Going_begin.nd rfl (Or.inl rfl)) pgs_nil))))
    (pss_one (ps_asg (pe_ix ix_list (pe_ix ix_list (pe_fld (pv 0) rfl) (pv 5) (fun _ _ => rfl)) (pv 6) (fun _ _ => rfl)) (pg_sub (pv 3) (pe_ix ix_tup (pv 4) pe_int (fun _ _ => rfl)) set_list)))) pss_nil))) (pss_one (ps_asg (pe_u c_deed_told hr (by omega) rfl (pa_cons (pv 4) (pa_cons (pv 3) pa_nil))) (pg_sub (pv 3) (pe_ix ix_tup (pv 4) pe_int (fun _ _ => rfl)) set_list)))))))))
    , ?_⟩
  obtain ⟨_, a, ws, d, m, st, z, ds, s', r, rfl, G, hds, ⟨p, n, b, rfl, hp, g, M, hnr, htl, rfl, rfl⟩, k⟩ := h
  obtain ⟨x, y2, rfl, h1, h2⟩ := dps2 hds
  obtain rfl := dp_int h2
  refine qd_asgL (K := K) (edl_copyL (f_boxesD (i := 0) G c rfl)) fun lc xs H1 hlc e1 hlx hlxs => ?_
  obtain rfl := dps_ints hlxs
  have G1 := G.ex e1
  have hcut : cutD (progD p) none (some (m.width : Int)) = (p.heads.take m.width).map fun h => .tuple (hdD h) := by rw [cutUpto, progD_heads, List.map_take]
  have hsl := ed_slT (K := K) (σ := [some (.ref a), some x, some (.int b), some (.ref lc), none, none, none]) (tl := tNoPart) (th := tPart (tFld K (tVar 0) "width")) (ed_var (i := 1) rfl (h1.ex e1)) eo_none (eo_d (f_width (i := 0) G1 c rfl))
  rw [hcut] at hsl
  have hLok : ∀ h ∈ p.heads.take m.width, h.ok n := fun h hm => (p.ok_heads hp h (List.mem_of_mem_take hm)).1
  have hLl : (p.heads.take m.width).length ≤ 4 := by rw [List.length_take]; exact Nat.le_trans (Nat.min_le_left _ _) M.width
  have hbg : begun m st p b = { st with near := (LB.begins xr m st.tabs (p.heads.take m.width) st.boxes st.near).1, touches := st.touches ++ roomsOf (LB.begins xr m st.tabs (p.heads.take m.width) st.boxes st.near).2 b } := rfl
  rw [hbg] at k
  revert hsl hLok hLl k
  generalize p.heads.take m.width = L
  intro k hsl hLok hLl
  refine s_forTD hsl (tdats_map (fun h => tdat_hd h) L) fun H2 e2 => ?_
  have G2 := G1.ex e2
  refine ⟨BgP K C a d m st z H H2 x b lc L, ⟨st.boxes, st.near, [], d, none, none, none, rfl, ?_, Nx.ex (e1.trans e2), G.fresh hlc, e2 _ _ hlx, g.n, g.w, Tx.refl _, hnr, Nat.le_refl _, Nat.zero_le _, rfl⟩, ?_, ?_, ?_⟩
  · show GoAt K C H2 a d m { st with near := st.near, touches := st.touches ++ [] } z
    rw [List.append_nil]
    exact G2
  · rintro i σ' H' ⟨bx, nr, done, d', v4, v5, v6, _, _, _, _, _, _, _, h, _⟩
    exact h
  · rintro i q v σ' H' hi hq ⟨bx, nr, done, d', v4, v5, v6, rfl, G', nx, hlo, hl', hbl, hbw, tx, hnl, hdl, hil, hbe⟩
    rw [List.getElem?_map] at hi
    obtain ⟨hh, hhi, rfl⟩ : ∃ hh, L[i]? = some hh ∧ q = .tuple (hdD hh) := by
      cases e : L[i]? with
      | none => rw [e] at hi; cases hi
      | some hh => rw [e] at hi; cases hi; exact ⟨hh, rfl, rfl⟩
    have hlt : i < L.length := (List.getElem?_eq_some_iff.mp hhi).1
    have hdrop : L.drop i = hh :: L.drop (i + 1) := by
      rw [List.drop_eq_getElem_cons hlt]
      congr 1
      rw [List.getElem?_eq_getElem hlt] at hhi
      exact Option.some.inj hhi
    have hok := hLok hh (List.mem_of_getElem? hhi)
    rw [hdrop] at hbe
    have nm : ∀ {H3 : Hp}, Ex H' H3 → ED K (tOp (rIxT K) (tVar 4) (tC (.int 0))) [some (.ref a), some x, some (.int b), some (.ref lc), some v, v5, v6] H3 (.str (hdN hh)) := fun e => ed_ixT (ed_var (i := 4) rfl (hq.ex e)) ed_int (hdD_at0 hh)
    show tSeq _ _ _ [some (.ref a), some x, some (.int b), some (.ref lc), some v, v5, v6] H'
    by_cases hst : stopH hh = true
    · refine q_yes (et_stops T (nm (Ex.refl H'))) hst fun H3 e3 => ?_
      rw [begins_stop hst] at hbe
      refine k .non d' H3 ?_ (nx.trans (Nx.ex e3)) .non
      rw [hbe, List.append_nil]
      exact G'.ex e3
    · have hst : stopH hh = false := by simpa using hst
      refine q_not (et_stops T (nm (Ex.refl H'))) hst fun H3 e3 => ?_
      have G3 := G'.ex e3
      have hl3 := e3 _ _ hl'
      have hbD : ∀ {σ : L2.St} {H4 : Hp}, σ[3]? = some (some (.ref lc)) → Ex H3 H4 → ED K (tVar 3) σ H4 (.list (bx.map PyData.int)) := fun hσ e => ed_var hσ (.lst (sq_of (e _ _ hl3)) (ints_dps bx))
      cases hh with
      | lf xx =>
        cases xx with
        | deed dd =>
          refine s_if (et_tabs T (nm e3)) (fun h => by cases h) fun _ H4 e4 => ?_
          have hdd : R_deed_told [.tuple (deedD dd), .list (bx.map PyData.int)] (.int (LB.deedW xr dd bx)) := ⟨dd, bx, rfl, hok, hbl, hbw, rfl⟩
          have hbox : dd.box < 32 := by cases dd <;> exact hok.1
          refine s_setL (l := lc) (xs := bx.map V.int) (j := dd.box) (v := .int (LB.deedW xr dd bx)) (e4 _ _ hl3) (ev_edI (ed_call (K := K) (eda_cons (ed_var (i := 4) rfl (hq.ex (e3.trans e4))) (eda_cons (hbD rfl e4) eda_nil)) hdd)) (ev_var rfl) (ev_edI (ed_ixT (ed_var (i := 4) rfl (hq.ex (e3.trans e4))) (ed_int (i := 1)) (by cases dd <;> rfl))) (by rw [List.length_map, hbl]; exact hbox) fun H5 e5 => ?_
          rw [← List.map_set]
          have hl5 := e5 _ _ (e4 _ _ hl3)
          refine ⟨bx.set dd.box (LB.deedW xr dd bx), nr, done, d', some v, v5, v6, rfl, ((G3.ex e4).ex e5).mutOther hl5 hlo, (nx.trans (Nx.ex ((e3.trans e4).trans e5))).mutFresh hlc, hlo, upd_same, by rw [List.length_set]; exact hbl, LB.wd_set hbw _ (LB.deedW_wd ops hok hbw), tx_mut (tx.trans (Tx.of ((e3.trans e4).trans e5))) hl5, hnl, by omega, hlt, hbe⟩
        | take bb tt cc =>
          have rm : LB.roomOf tt (bx.getD cc 0) = LB.roomOf tt (bx.getD cc 0) := rfl
          have hG : ∀ d2 H5, GoAt K C H5 a d2 m (touched m { st with near := nr, touches := st.touches ++ roomsOf done b } b (LB.roomOf tt (bx.getD cc 0))) z → GoAt K C H5 a d2 m { st with near := LB.nearer m nr (LB.roomOf tt (bx.getD cc 0)), touches := st.touches ++ roomsOf (done ++ [LB.roomOf tt (bx.getD cc 0)]) b } z := fun d2 H5 h => by
            rw [roomsOf_snoc, ← List.append_assoc]
            exact h
          obtain ⟨ht4, hc32⟩ := tabOf_ok (x := .take bb tt cc) rfl hok
          refine s_if (et_tabs T (nm e3)) (fun _ H4 e4 => ?_) (fun h => by cases h)
          have G4 := G3.ex e4
          refine m_go (K := K) (i := 0) (n := 3) (ds := [.tuple (lfD (.take bb tt cc)), .list (bx.map PyData.int), .int b]) (R := R_touch) G4 rfl (eda_cons (ed_var (i := 4) rfl (hq.ex (e3.trans e4))) (eda_cons (hbD rfl e4) (eda_cons (ed_var (i := 2) rfl (.int _)) eda_nil))) ⟨.take bb tt cc, bx, b, tt, cc, rfl, rfl, by rw [hbl]; exact hc32, hnl, ?_, rfl, rfl⟩ fun v2 d2 H5 G5 n5 _ => ?_
          · show (st.touches ++ roomsOf done b).length < 100000
            unfold roomsOf
            rw [List.length_append, List.length_map]
            omega
          have G6 := hG _ _ G5
          have hl5 := n5.fr _ _ (e4 _ _ hl3) hlo
          have hlo5 := n5.apart (e4 _ _ hl3) hlo
          have tx5 := n5.tx G4
          have tx05 := (Tx.of (e3.trans e4)).trans tx5
          have hq5 := hq.tx tx05 (tdat_hd _)
          have nl5 : (LB.nearer m nr (LB.roomOf tt (bx.getD cc 0))).length ≤ 1000 := Nat.le_trans (nearer_len _ _ _) (Nat.le_trans M.near (by decide))
          have dl5 : (done ++ [LB.roomOf tt (bx.getD cc 0)]).length ≤ i + 1 := by rw [List.length_append]; show _ + 1 ≤ _; omega
          have nm5 : ∀ {H6 : Hp}, Ex H5 H6 → ED K (tOp (rIxT K) (tVar 4) (tC (.int 0))) [some (.ref a), some x, some (.int b), some (.ref lc), some v, v5, v6] H6 (.str (hdN (.lf (.take bb tt cc)))) := fun e => ed_ixT (ed_var (i := 4) rfl (hq5.ex e)) ed_int (hdD_at0 _)
          refine s_when (b := true) (et_d (ed_eqS (nm5 (Ex.refl H5)) (ed_c (.str "take")) rfl)) (fun _ H6 e6 => ?_) (fun h => by cases h)
          have G7 := G6.ex e6
          have hl6 := e6 _ _ hl5
          refine qd_asgG (ed_m0 (K := K) (i := 0) (R := R_cell_told) (n := 2) (ds := [.tuple (lfD (.take bb tt cc)), .list (bx.map PyData.int)]) (r := .tuple [nD tt, .int (bx.getD cc 0)]) G7 rfl (eda_cons (ed_var (i := 4) rfl (hq5.ex e6)) (eda_cons (ed_var (i := 3) rfl (.lst (sq_of hl6) (ints_dps bx))) eda_nil)) ⟨.take bb tt cc, bx, tt, cc, rfl, rfl, by rw [hbl]; exact hc32, rfl⟩) fun v7 H7 e7 hv7 => ?_
          obtain ⟨w1, w2, hw1, hw2, htk⟩ := tk_two (i := 5) (j := 6) hv7 [some (.ref a), some x, some (.int b), some (.ref lc), some v, v5, v6]
          obtain rfl := dp_int hw1
          obtain rfl := dp_int hw2
          refine ⟨_, htk, ?_⟩
          have G8 := G7.ex e7
          have hcell : ED K (tOp (rIxL K) (tOp (rIxL K) (tFld K (tVar 0) "tables") (tVar 5)) (tVar 6)) [some (.ref a), some x, some (.int b), some (.ref lc), some v, some (.int (tt : Int)), some (.int (bx.getD cc 0))] H7 (.int (LB.cellOf st.tabs tt (bx.getD cc 0))) := by
            have q := ed_cell (K := K) (i := 0) (σ := [some (.ref a), some x, some (.int b), some (.ref lc), some v, some (.int (tt : Int)), some (.int (bx.getD cc 0))]) G8 c rfl (ed_var (i := 5) rfl (.int _)) (ed_var (i := 6) rfl (.int _)) g ht4 (LB.wd_getD hbw _)
            exact q
          refine s_setL (l := lc) (xs := bx.map V.int) (j := bb) (v := .int (LB.cellOf st.tabs tt (bx.getD cc 0))) (e7 _ _ hl6) (ev_edI hcell) (ev_var (i := 3) rfl) (ev_edI (ed_ixT (ed_var (i := 4) rfl (hq5.ex (e6.trans e7))) (ed_int (i := 1)) rfl)) (by rw [List.length_map, hbl]; exact hok.1) fun H8 e8 => ?_
          rw [← List.map_set]
          have hl8 := e8 _ _ (e7 _ _ hl6)
          refine ⟨bx.set bb (LB.cellOf st.tabs tt (bx.getD cc 0)), _, _, d2, some v, _, _, rfl, (G8.ex e8).mutOther hl8 hlo5, (nx.trans ((Nx.ex (e3.trans e4)).trans (n5.trans (Nx.ex ((e6.trans e7).trans e8))))).mutFresh hlc, hlo5, upd_same, by rw [List.length_set]; exact hbl, LB.wd_set hbw _ (LB.cellOf_wd g.tw _ _), tx_mut ((tx.trans tx05).trans (Tx.of ((e6.trans e7).trans e8))) hl8, nl5, dl5, hlt, ?_⟩
          rw [hbe]
          show (_, done ++ (_ :: _)) = (_, (done ++ [_]) ++ _)
          rw [List.append_assoc]
          rfl
        | put tt cc ee =>
          have rm : LB.roomOf tt (bx.getD cc 0) = LB.roomOf tt (bx.getD cc 0) := rfl
          have hG : ∀ d2 H5, GoAt K C H5 a d2 m (touched m { st with near := nr, touches := st.touches ++ roomsOf done b } b (LB.roomOf tt (bx.getD cc 0))) z → GoAt K C H5 a d2 m { st with near := LB.nearer m nr (LB.roomOf tt (bx.getD cc 0)), touches := st.touches ++ roomsOf (done ++ [LB.roomOf tt (bx.getD cc 0)]) b } z := fun d2 H5 h => by
            rw [roomsOf_snoc, ← List.append_assoc]
            exact h
          obtain ⟨ht4, hc32⟩ := tabOf_ok (x := .put tt cc ee) rfl hok
          refine s_if (et_tabs T (nm e3)) (fun _ H4 e4 => ?_) (fun h => by cases h)
          have G4 := G3.ex e4
          refine m_go (K := K) (i := 0) (n := 3) (ds := [.tuple (lfD (.put tt cc ee)), .list (bx.map PyData.int), .int b]) (R := R_touch) G4 rfl (eda_cons (ed_var (i := 4) rfl (hq.ex (e3.trans e4))) (eda_cons (hbD rfl e4) (eda_cons (ed_var (i := 2) rfl (.int _)) eda_nil))) ⟨.put tt cc ee, bx, b, tt, cc, rfl, rfl, by rw [hbl]; exact hc32, hnl, ?_, rfl, rfl⟩ fun v2 d2 H5 G5 n5 _ => ?_
          · show (st.touches ++ roomsOf done b).length < 100000
            unfold roomsOf
            rw [List.length_append, List.length_map]
            omega
          have G6 := hG _ _ G5
          have hl5 := n5.fr _ _ (e4 _ _ hl3) hlo
          have hlo5 := n5.apart (e4 _ _ hl3) hlo
          have tx5 := n5.tx G4
          have tx05 := (Tx.of (e3.trans e4)).trans tx5
          have hq5 := hq.tx tx05 (tdat_hd _)
          have nl5 : (LB.nearer m nr (LB.roomOf tt (bx.getD cc 0))).length ≤ 1000 := Nat.le_trans (nearer_len _ _ _) (Nat.le_trans M.near (by decide))
          have dl5 : (done ++ [LB.roomOf tt (bx.getD cc 0)]).length ≤ i + 1 := by rw [List.length_append]; show _ + 1 ≤ _; omega
          have nm5 : ∀ {H6 : Hp}, Ex H5 H6 → ED K (tOp (rIxT K) (tVar 4) (tC (.int 0))) [some (.ref a), some x, some (.int b), some (.ref lc), some v, v5, v6] H6 (.str (hdN (.lf (.put tt cc ee)))) := fun e => ed_ixT (ed_var (i := 4) rfl (hq5.ex e)) ed_int (hdD_at0 _)
          refine s_when (b := false) (et_d (ed_eqS (nm5 (Ex.refl H5)) (ed_c (.str "take")) rfl)) (fun h => by cases h) fun _ H6 e6 => ?_
          refine ⟨bx, _, _, d2, some v, v5, v6, rfl, G6.ex e6, nx.trans ((Nx.ex (e3.trans e4)).trans (n5.trans (Nx.ex e6))), hlo5, e6 _ _ hl5, hbl, hbw, (tx.trans tx05).trans (Tx.of e6), nl5, dl5, hlt, ?_⟩
          rw [hbe]
          show (_, done ++ (_ :: _)) = (_, (done ++ [_]) ++ _)
          rw [List.append_assoc]
          rfl
        | touch tt cc =>
          have rm : LB.roomOf tt (bx.getD cc 0) = LB.roomOf tt (bx.getD cc 0) := rfl
          have hG : ∀ d2 H5, GoAt K C H5 a d2 m (touched m { st with near := nr, touches := st.touches ++ roomsOf done b } b (LB.roomOf tt (bx.getD cc 0))) z → GoAt K C H5 a d2 m { st with near := LB.nearer m nr (LB.roomOf tt (bx.getD cc 0)), touches := st.touches ++ roomsOf (done ++ [LB.roomOf tt (bx.getD cc 0)]) b } z := fun d2 H5 h => by
            rw [roomsOf_snoc, ← List.append_assoc]
            exact h
          obtain ⟨ht4, hc32⟩ := tabOf_ok (x := .touch tt cc) rfl hok
          refine s_if (et_tabs T (nm e3)) (fun _ H4 e4 => ?_) (fun h => by cases h)
          have G4 := G3.ex e4
          refine m_go (K := K) (i := 0) (n := 3) (ds := [.tuple (lfD (.touch tt cc)), .list (bx.map PyData.int), .int b]) (R := R_touch) G4 rfl (eda_cons (ed_var (i := 4) rfl (hq.ex (e3.trans e4))) (eda_cons (hbD rfl e4) (eda_cons (ed_var (i := 2) rfl (.int _)) eda_nil))) ⟨.touch tt cc, bx, b, tt, cc, rfl, rfl, by rw [hbl]; exact hc32, hnl, ?_, rfl, rfl⟩ fun v2 d2 H5 G5 n5 _ => ?_
          · show (st.touches ++ roomsOf done b).length < 100000
            unfold roomsOf
            rw [List.length_append, List.length_map]
            omega
          have G6 := hG _ _ G5
          have hl5 := n5.fr _ _ (e4 _ _ hl3) hlo
          have hlo5 := n5.apart (e4 _ _ hl3) hlo
          have tx5 := n5.tx G4
          have tx05 := (Tx.of (e3.trans e4)).trans tx5
          have hq5 := hq.tx tx05 (tdat_hd _)
          have nl5 : (LB.nearer m nr (LB.roomOf tt (bx.getD cc 0))).length ≤ 1000 := Nat.le_trans (nearer_len _ _ _) (Nat.le_trans M.near (by decide))
          have dl5 : (done ++ [LB.roomOf tt (bx.getD cc 0)]).length ≤ i + 1 := by rw [List.length_append]; show _ + 1 ≤ _; omega
          have nm5 : ∀ {H6 : Hp}, Ex H5 H6 → ED K (tOp (rIxT K) (tVar 4) (tC (.int 0))) [some (.ref a), some x, some (.int b), some (.ref lc), some v, v5, v6] H6 (.str (hdN (.lf (.touch tt cc)))) := fun e => ed_ixT (ed_var (i := 4) rfl (hq5.ex e)) ed_int (hdD_at0 _)
          refine s_when (b := false) (et_d (ed_eqS (nm5 (Ex.refl H5)) (ed_c (.str "take")) rfl)) (fun h => by cases h) fun _ H6 e6 => ?_
          refine ⟨bx, _, _, d2, some v, v5, v6, rfl, G6.ex e6, nx.trans ((Nx.ex (e3.trans e4)).trans (n5.trans (Nx.ex e6))), hlo5, e6 _ _ hl5, hbl, hbw, (tx.trans tx05).trans (Tx.of e6), nl5, dl5, hlt, ?_⟩
          rw [hbe]
          show (_, done ++ (_ :: _)) = (_, (done ++ [_]) ++ _)
          rw [List.append_assoc]
          rfl
        | tell _ => cases hst
        | idle _ => cases hst
      | ite _ _ _ => cases hst
      | rnd _ _ => cases hst
      | trn _ _ => cases hst
  · rintro σ' H' ⟨bx, nr, done, d', v4, v5, v6, rfl, G', nx, hlo, hl', hbl, hbw, tx, hnl, hdl, hil, hbe⟩
    rw [List.length_map, List.drop_length] at hbe
    refine k .non d' H' ?_ nx .non
    rw [hbe]
    show GoAt K C H' a d' m { st with near := nr, touches := st.touches ++ roomsOf (done ++ []) b } z
    rw [List.append_nil]
    exact G'
end
end LW
namespace LW
open PySem PySem.Spec PyProof.Rows L2 Evl
open LB (Deed Lf P Hd S Mk Co Ev StOk)
section
variable {K : PySem.W.Frag} {σ : L2.St} {H : Hp} {D : Ends} {tu : TS} {g : TG} {tr : TA}
theorem for_J {J : It} {Kp : Hp → Prop} {items : List PyData} (jd : JD K Kp J items) (Pv : Nat → L2.St → Hp → Prop) (p0 : Pv 0 σ H) (pk : ∀ i σ' H', Pv i σ' H' → Kp H')
    (ps : ∀ i d x σ' H' H4, items[i]? = some d → Pv i σ' H' → Ex H' H4 → Dp K H4 x d → g x σ' H4 fun σ2 H2 => tu { D with nx := Pv (i + 1), ct := Pv (i + 1), bk := D.nx } σ2 H2) (pd : ∀ σ' H', Pv items.length σ' H' → D.nx σ' H') :
    ∃ W : Nat → Nat → L2.St → Hp → Prop, (∃ m, W 0 m σ H) ∧ ∀ i m σ H, W i m σ H →
      (J.stop i H ∧ D.nx σ H) ∨ (J.go i H ∧ ∃ N : L2.St → Hp → Prop, (∀ σ' H', N σ' H' → ∃ m', m' < m ∧ W (i + 1) m' σ' H') ∧ ∀ x H', J.yld i H x H' → g x σ H' fun σ2 H2 => tu { D with nx := N, ct := N, bk := D.nx } σ2 H2) := by
  refine ⟨fun i m σ H => m = items.length - i ∧ i ≤ items.length ∧ Pv i σ H, ⟨items.length, by simp, Nat.zero_le _, p0⟩, ?_⟩
  rintro i m σ H ⟨rfl, hi, p⟩
  obtain ⟨j1, j2⟩ := jd H (pk i σ H p)
  by_cases hlt : i < items.length
  · obtain ⟨g1, g2⟩ := j2 i _ (List.getElem?_eq_getElem hlt)
    refine .inr ⟨g1, Pv (i + 1), fun σ' H' p' => ⟨items.length - (i + 1), by omega, rfl, hlt, p'⟩, fun x H' y => ?_⟩
    obtain ⟨e4, hx⟩ := g2 x H' y
    exact ps i _ x σ H H' (List.getElem?_eq_getElem hlt) p e4 hx
  · have e : i = items.length := by omega
    subst e
    exact .inl ⟨j1, pd σ H p⟩
theorem s_forEnT {ds : List PyData} (h : EDA K tr σ H [.tuple ds]) (z : tdats ds = true) (W : ∀ H1, Ex H H1 → ∃ Pv : Nat → L2.St → Hp → Prop, Pv 0 σ H1 ∧ (∀ i σ' H', Pv i σ' H' → Tx H1 H') ∧
    (∀ i d x σ' H' H4, (numD 0 ds)[i]? = some d → Pv i σ' H' → Ex H' H4 → Dp K H4 x d → g x σ' H4 fun σ2 H2 => tu { D with nx := Pv (i + 1), ct := Pv (i + 1), bk := D.nx } σ2 H2) ∧ (∀ σ' H', Pv ds.length σ' H' → D.nx σ' H')) : tFor (iEnumT K tr) g tu D σ H :=
  h H (Ex.refl H) _ fun vs H1 e hv => by
    obtain ⟨v, rfl, hv1⟩ := dps1 hv
    obtain ⟨a, xs, rfl, hs, hxs⟩ := dp_tup hv1
    obtain ⟨Pv, p0, ptx, ps, pd⟩ := W H1 e
    exact ⟨a, xs, rfl, hs, for_J (jd_enumT (Kp := fun H3 => SqT K H3 a xs ∧ DpAll K H3 xs ds) fun _ k => k) Pv p0 (fun i σ' H' p => ⟨(ptx i σ' H' p).seq hs, hxs.tx (ptx i σ' H' p) z⟩) ps (by rw [numD_len]; exact pd)⟩
theorem eva_i {i : Int} (h : EDA K tr σ H [.int i]) : EvA tr σ H [.int i] := fun H1 e Q q => h H1 e _ fun vs H2 e2 hv => by
  obtain ⟨v, rfl, hv1⟩ := dps1 hv
  obtain rfl := dp_int hv1
  exact q H2 e2
end
/-- the promise of a way from s along q: too long, or done -/
structure Fin (K : PySem.W.Frag) (C TL : Addr) (H : Hp) (a : Addr) (d : Ad) (m : Mk) (s : S) (q : Co × List Ev) (R : Hp → Prop) (E : XK) : Prop where
  ok : s.met.length + q.2.length ≤ 20000 → ∀ d' H', GoAt K C H' a d' m (s.add q) (s.add q).met.length → Nx a d H d' H' → R H'
  long : 20000 < s.met.length + q.2.length → ∀ H', Fr (d.own a) H H' → E (.ref TL) none H'
section
variable {K : PySem.W.Frag} {C TL : Addr} {H H1 : Hp} {a : Addr} {d d1 : Ad} {m : Mk} {s : S} {q q1 q2 : Co × List Ev} {R R1 : Hp → Prop} {E : XK} {σ : L2.St} {i : Nat} {z : Nat}
theorem Nx.fr2 {d' : Ad} {H' : Hp} (x : Nx a d H d1 H1) (f : Fr (d1.own a) H1 H') : Fr (d.own a) H H' := fun b o h n => f b o (x.fr b o h n) fun hm => by
  rcases x.nw b hm with r | r
  · exact n r
  · rw [h] at r; cases r
theorem Fin.nx (F : Fin K C TL H a d m s q R E) (x : Nx a d H d1 H1) : Fin K C TL H1 a d1 m s q R E := ⟨fun h d' H' G y => F.ok h d' H' G (x.trans y), fun h H' f => F.long h H' (x.fr2 (d' := d1) f)⟩
theorem Fin.ex (F : Fin K C TL H a d m s q R E) (e : Ex H H1) : Fin K C TL H1 a d m s q R E := F.nx (Nx.ex e)
theorem Fin.imp (F : Fin K C TL H a d m s q R E) (h : ∀ H', R H' → R1 H') : Fin K C TL H a d m s q R1 E := ⟨fun l d' H' G y => h H' (F.ok l d' H' G y), F.long⟩
theorem Fin.step (F : Fin K C TL H a d m s q R E) (q1 q2 : Co × List Ev) (hq : q = (q2.1, q1.2 ++ q2.2)) (x : Nx a d H d1 H1) : Fin K C TL H1 a d1 m (s.add q1) q2 R E := by
  subst hq
  have hl : (s.add q1).met.length + q2.2.length = s.met.length + (q1.2 ++ q2.2).length := by rw [LB.S.add_met, List.length_append]; omega
  refine ⟨fun h d' H' G y => F.ok (by show s.met.length + (q1.2 ++ q2.2).length ≤ 20000; omega) d' H' ?_ (x.trans y), fun h H' f => F.long (by show 20000 < s.met.length + (q1.2 ++ q2.2).length; omega) H' (x.fr2 (d' := d1) f)⟩
  rw [LB.S.add_add] at G
  exact G
theorem Fin.call (F : Fin K C TL H a d m s q R E) (q1 q2 : Co × List Ev) (hq : q = (q2.1, q1.2 ++ q2.2)) (k : s.met.length + q1.2.length ≤ 20000 → ∀ d1 H1, GoAt K C H1 a d1 m (s.add q1) (s.add q1).met.length → Nx a d H d1 H1 → Fin K C TL H1 a d1 m (s.add q1) q2 R E → R1 H1) : Fin K C TL H a d m s q1 R1 E :=
  ⟨fun h d' H' G x => k h d' H' G x (F.step q1 q2 hq x), fun h H' f => F.long (by subst hq; show 20000 < s.met.length + (q1.2 ++ q2.2).length; rw [List.length_append]; omega) H' f⟩
/-- the state behind meet -/
def metS (s : S) (path : List Nat) (more : Int) : S := { s with met := s.met ++ [(path, s.beats)], beats := s.beats + more }
theorem Fin.full (F : Fin K C TL H a d m s q R E) (hq : q.2 ≠ []) (h : s.met.length = 20000) : ∀ H', Fr (d.own a) H H' → E (.ref TL) none H' := F.long (by
    have : q.2.length ≠ 0 := fun e => hq (List.eq_nil_of_length_eq_zero e)
    omega)
theorem q_meet {tp te : TE} {path : List Nat} {more : Int} {Q : VK} (hx : s.met.length = 20000 → ∀ H', Fr (d.own a) H H' → E (.ref TL) none H') (hle : s.met.length ≤ 20000) (G : GoAt K C H a d m s z) (hv : σ[i]? = some (some (.ref a))) (hp : ED K tp σ H (pathD path)) (hm : ED K te σ H (.int more))
    (k : s.met.length < 20000 → ∀ v H1, GoAt K C H1 a d m (metS s path more) z → Nx a d H d H1 → Q v H1) : tMeth C "meet" (spMeet K C TL) [] E (tVar i) (tCons tp (tCons te tNil)) σ H Q :=
  m_call G hv rfl (eda_cons hp (eda_cons hm eda_nil)) fun vs H1 e1 hvs => by
    obtain ⟨x, y, rfl, h1, h2⟩ := dps2 hvs
    obtain rfl := dp_int h2
    refine ⟨rfl, a, x, more, d, m, s, z, path, rfl, G.ex e1, h1, hle, fun h v H2 G2 x2 => k h v H2 G2 ((Nx.ex e1).trans x2), fun h H2 e2 => hx h H2 fun b o hb _ => e2 b o (e1 b o hb)⟩
end
def isPath (H : Hp) (b : Addr) (path : List Nat) : Prop := H b = some (.tup ((path.map kN).map kV))
def spGo (K : PySem.W.Frag) (C TL : Addr) (dp : Nat) : Sp := fun vs H Q E => vs.length = 3 ∧ ∃ a x y d m s p A, vs = [.ref a, x, y] ∧ GoAt K C H a d m s s.met.length ∧ Dp K H x (.tuple (progD p)) ∧ Dp K H y (pathD A) ∧ p.ok dp ∧ p.size ≤ 400 ∧ A.length + 2 * dp ≤ 100 ∧ StOk s ∧ MkOk m ∧ s.met.length ≤ 20000 ∧
  Fin K C TL H a d m s (LB.sem xr bt m p A 0 s.co) (fun H' => Q .non H') E
def spDo (K : PySem.W.Frag) (C TL : Addr) (dp : Nat) : Sp := fun vs H Q E => vs.length = 3 ∧ ∃ a x pb d m s h A k, vs = [.ref a, x, .ref pb] ∧ GoAt K C H a d m s s.met.length ∧ Dp K H x (.tuple (hdD h)) ∧ isPath H pb (A ++ [k]) ∧ h.ok dp ∧ 1 ≤ dp ∧ hdSize h ≤ 400 ∧ A.length + 2 * dp ≤ 100 ∧ StOk s ∧ MkOk m ∧ s.met.length ≤ 20000 ∧
  Fin K C TL H a d m s (LB.hdSem xr bt m h (A ++ [k]) s.co) (fun H' => Q .non H') E
section
variable {K : PySem.W.Frag} {H H1 : Hp} {pb : Addr} {path : List Nat} {a C : Addr} {d d1 : Ad} {m : Mk} {s : S} {z : Nat}
theorem isPath.dp (h : isPath H pb path) : Dp K H (.ref pb) (pathD path) := by
  have e : (path.map kN).map kV = (path.map fun (n : Nat) => (n : Int)).map V.int := by rw [List.map_map, List.map_map]; rfl
  have e2 : path.map nD = (path.map fun (n : Nat) => (n : Int)).map PyData.int := by rw [List.map_map]; rfl
  unfold pathD
  rw [e2]
  exact .tup (st_of (by rw [← e]; exact h)) (ints_dps _)
theorem isPath.ex (h : isPath H pb path) (e : Ex H H1) : isPath H1 pb path := e _ _ h
theorem isPath.nx (h : isPath H pb path) (x : Nx a d H d1 H1) (G : GoAt K C H a d m s z) : isPath H1 pb path := x.fr _ _ h fun hm => ((G.notT pb hm _).1 h).elim
end
section
variable {K : PySem.W.Frag} {C TL : Addr} {H : Hp} {a : Addr} {d : Ad} {m : Mk} {s : S} {E : XK} {σ : L2.St} {i : Nat} {ta tb : TE}
theorem q_go {p : P} {A : List Nat} {dp : Nat} {Q : VK} (F : Fin K C TL H a d m s (LB.sem xr bt m p A 0 s.co) (fun H' => Q .non H') E) (G : GoAt K C H a d m s s.met.length) (hv : σ[i]? = some (some (.ref a))) (hs : ED K ta σ H (.tuple (progD p))) (hp : ED K tb σ H (pathD A))
    (hk : p.ok dp) (hz : p.size ≤ 400) (hA : A.length + 2 * dp ≤ 100) (so : StOk s) (M : MkOk m) (hle : s.met.length ≤ 20000) : tMeth C "go" (spGo K C TL dp) [] E (tVar i) (tCons ta (tCons tb tNil)) σ H Q :=
  m_call G hv rfl (eda_cons hs (eda_cons hp eda_nil)) fun vs H1 e1 hvs => by
    obtain ⟨x, y, rfl, h1, h2⟩ := dps2 hvs
    exact ⟨rfl, a, x, y, d, m, s, p, A, rfl, G.ex e1, h1, h2, hk, hz, hA, so, M, hle, F.ex e1⟩
/-- a path and a number behind it: a new tuple -/
theorem et_path {A : List Nat} {k : Nat} (ha : ED K ta σ H (pathD A)) (hb : ED K tb σ H (nD k)) (hA : A.length ≤ 1000) : ∀ H1, Ex H H1 → ∀ Q : VK, (∀ pb H2, Ex H1 H2 → isPath H2 pb (A ++ [k]) → Q (.ref pb) H2) → tOp (rCatA K) ta (tTup (tCons tb tNil)) σ H1 Q := fun H1 e Q q =>
  ha H1 e _ fun x H2 e2 hx => hb H2 (e.trans e2) _ fun y H3 e3 hy => ⟨sz_of (show 1 ≤ 100000 by decide), fun p hp => by
    obtain ⟨pa, xs, rfl, h1, h2⟩ := dp_tup hx
    obtain rfl := dp_int hy
    have e4 : Ex H3 (upd H3 p (.tup [.int (k : Int)])) := Ex.new hp
    have hxs : xs = (A.map kN).map kV := by
      have e : (A.map kN).map kV = (A.map fun (n : Nat) => (n : Int)).map V.int := by rw [List.map_map, List.map_map]; rfl
      have e2 : A.map nD = (A.map fun (n : Nat) => (n : Int)).map PyData.int := by rw [List.map_map]; rfl
      rw [e2] at h2
      rw [dps_ints h2, e]
    refine ⟨pa, p, xs, [.int (k : Int)], rfl, rfl, ex_t (e3.trans e4) h1, st_of upd_same, sz_of (by rw [hxs, List.length_map, List.length_map]; show A.length + 1 ≤ 100000; omega), fun e => ?_, (fun _ e => by cases e), fun _ _ p' hp' => ?_⟩
    · refine q p _ ((e2.trans e3).trans e4) ?_
      have hA0 : A = [] := by
        cases A with
        | nil => rfl
        | cons b l => rw [hxs] at e; cases e
      subst hA0
      exact upd_same
    · refine q p' _ (((e2.trans e3).trans e4).trans (Ex.new hp')) ?_
      show upd _ p' _ p' = _
      rw [upd_same, hxs, List.map_append, List.map_append]
      rfl⟩
theorem q_do {h : Hd} {A : List Nat} {k dp : Nat} {Q : VK} {mm : Str} (F : Fin K C TL H a d m s (LB.hdSem xr bt m h (A ++ [k]) s.co) (fun H' => Q .non H') E) (G : GoAt K C H a d m s s.met.length) (hv : σ[i]? = some (some (.ref a))) (hs : ED K ta σ H (.tuple (hdD h)))
    (hp : ∀ H1, Ex H H1 → ∀ Q : VK, (∀ pb H2, Ex H1 H2 → isPath H2 pb (A ++ [k]) → Q (.ref pb) H2) → tb σ H1 Q) (hk : h.ok dp) (h1 : 1 ≤ dp) (hz : hdSize h ≤ 400) (hA : A.length + 2 * dp ≤ 100) (so : StOk s) (M : MkOk m) (hle : s.met.length ≤ 20000) (hl : (goF m s.beats d).lookup mm = none := by rfl) :
    tMeth C mm (spDo K C TL dp) [] E (tVar i) (tCons ta (tCons tb tNil)) σ H Q :=
  ⟨_, hv, a, d.dx, _, rfl, G.ins, hl, hs H (Ex.refl H) _ fun x H1 e1 hx => hp H1 e1 _ fun pb H2 e2 hpb => ⟨rfl, a, x, pb, d, m, s, h, A, k, rfl, G.ex (e1.trans e2), hx.ex e2, hpb, hk, h1, hz, hA, so, M, hle, F.ex (e1.trans e2)⟩⟩
theorem hd_le {p : P} : ∀ h ∈ p.heads, hdSize h ≤ p.size := fun h hm => by
  have q : ∀ (l : List Hd), h ∈ l → hdSize h ≤ (l.map hdSize).sum := fun l => by
    induction l with
    | nil => intro e; cases e
    | cons x l ih =>
      intro e
      rw [List.map_cons, List.sum_cons]
      rcases List.mem_cons.mp e with rfl | e
      · omega
      · have := ih e
        omega
  have := q p.heads hm
  rw [heads_size] at this
  exact this
end
section
variable {Pg : Program} {w : World} {K : PySem.W.Frag} {mg : Str → Option Value} {base : Heap} {dF dB aSt aOt aMm C TL : Addr}
abbrev s_Going_go : Stmt := inClass (top 51) 2
theorem sc_Going_go : FnScope ["self", "steps", "ahead", "number", "step"] ["self", "steps", "ahead"] (defScope s_Going_go) := ⟨rfl, rfl, rfl, by decide +kernel, rfl, by decide +kernel, by decide +kernel⟩
theorem m_go' (D : DfM K C "go" "Going.go" s_Going_go ["self", "steps", "ahead"]) (T : Txt K mg w dF dB aSt aOt aMm) {dp : Nat} (m_do : MtX Pg w K mg base (5 + 3 * dp) C "do" (spDo K C TL dp)) : MtX Pg w K mg base (5 + 3 * dp + 1) C "go" (spGo K C TL dp) := by
  refine D.mtx sc_Going_go (fun vs H Q E h => h.1) (fun f cdv A outer s H vs Q E hr h => ?_)
  have tkx := takes_of (X := cxOf (L2.CX Pg w) Pg w K mg base ["self", "steps", "ahead", "number", "step"] "Going.go" (defScope s_Going_go) f cdv A outer s H E) rfl rfl rfl rfl
  refine ⟨_, (pss_one (ps_for (passes_of rfl) rfl (pi_enumT rfl T.n_enumerate (pa_cons (pv 1) pa_nil)) (pg_tup rfl (pgs_cons (pg_name (i := 3) sc_Going_go.nd rfl (Or.inl rfl)) (pgs_cons (pg_name (i := 4) sc_Going_go.nd rfl (Or.inl rfl)) pgs_nil)))
    (pss_one (ps_expr (pe_mx m_do hr (by omega) (pv 0) tkx (fun _ _ _ _ h => h) (pa_cons (pv 4) (pa_cons (pe_op op_catA (pv 2) (pe_tup (pa_cons (pv 3) pa_nil))) pa_nil)))))))
    , ?_⟩
  obtain ⟨_, a, x, y, d, m, st, p, B, rfl, G, h1, h2, hk, hz, hB, so, M, hle, F⟩ := h
  rw [LB.sem_semL] at F
  refine s_forEnT (K := K) (eda_cons (ed_var (i := 1) rfl h1) eda_nil) (tdats_prog p) fun H1 e1 => ?_
  have hlen : (progD p).length = p.heads.length := by rw [progD_heads, List.length_map]
  refine ⟨fun i σ' H' => ∃ (d' : Ad) (s' : S) (v3 v4 : Option V), σ' = [some (.ref a), some x, some y, v3, v4] ∧ i ≤ p.heads.length ∧ GoAt K C H' a d' m s' s'.met.length ∧ Nx a d H d' H' ∧ Tx H1 H' ∧ StOk s' ∧ s'.met.length ≤ 20000 ∧
    Fin K C TL H' a d' m s' (LB.semL xr bt m (p.heads.drop i) B i s'.co) (fun H' => Q .non H') E, ⟨d, st, none, none, rfl, Nat.zero_le _, G.ex e1, Nx.ex e1, Tx.refl _, so, hle, F.ex e1⟩, ?_, ?_, ?_⟩
  · rintro i σ' H' ⟨d', s', v3, v4, _, _, _, _, h, _⟩
    exact h
  · rintro i q v σ' H' H4 hi ⟨d', s', v3, v4, rfl, hil, G', nx, tx, so', hle', F'⟩ e4 hq
    obtain ⟨dh, hdh, rfl⟩ := numD_at hi
    rw [progD_heads, List.getElem?_map] at hdh
    obtain ⟨h, hh, rfl⟩ : ∃ h, p.heads[i]? = some h ∧ dh = .tuple (hdD h) := by
      cases e : p.heads[i]? with
      | none => rw [e] at hdh; cases hdh
      | some h => rw [e] at hdh; cases hdh; exact ⟨h, rfl, rfl⟩
    have hlt : i < p.heads.length := (List.getElem?_eq_some_iff.mp hh).1
    have hdrop : p.heads.drop i = h :: p.heads.drop (i + 1) := by
      rw [List.drop_eq_getElem_cons hlt]
      congr 1
      rw [List.getElem?_eq_getElem hlt] at hh
      exact Option.some.inj hh
    rw [hdrop] at F'
    obtain ⟨ho, h1d⟩ := p.ok_heads hk h (List.mem_of_getElem? hh)
    obtain ⟨w1, w2, hw1, hw2, htk⟩ := tk_two (i := 3) (j := 4) hq [some (.ref a), some x, some y, v3, v4]
    obtain rfl := dp_int hw1
    rw [Nat.zero_add] at hw1 htk
    refine htk _ ?_
    have G4 := G'.ex e4
    have tx4 : Tx H H4 := (Tx.of e1).trans (tx.trans (Tx.of e4))
    have F4 := F'.ex e4
    refine q_do (K := K) (i := 0) (A := B) (k := i) (F4.call (LB.hdSem xr bt m h (B ++ [i]) s'.co) (LB.semL xr bt m (p.heads.drop (i + 1)) B (i + 1) (s'.add (LB.hdSem xr bt m h (B ++ [i]) s'.co)).co) rfl fun hl d2 H2 G2 x2 F2 => ?_) G4 rfl (ed_var (i := 4) rfl hw2) (et_path (ed_var (i := 2) rfl (h2.tx tx4 (tdat_path _))) (ed_var (i := 3) rfl hw1) (by omega)) ho h1d (Nat.le_trans (hd_le h (List.mem_of_getElem? hh)) hz) hB so' M hle'
    exact ⟨d2, _, _, _, rfl, hlt, G2, (nx.trans (Nx.ex e4)).trans x2, (tx.trans (Tx.of e4)).trans (x2.tx G4), so'.hd ops M ho h1d B i, by rw [LB.S.add_met]; exact hl, F2⟩
  · rintro σ' H' ⟨d', s', v3, v4, rfl, hil, G', nx, tx, so', hle', F'⟩
    rw [hlen, List.drop_length] at F'
    refine F'.ok (by show s'.met.length + 0 ≤ 20000; omega) d' H' ?_ (Nx.refl _ _ _)
    show GoAt K C H' a d' m (s'.add (s'.co, [])) (s'.add (s'.co, [])).met.length
    rw [LB.S.add_nil]
    exact G'
end
end LW
namespace LW
open PySem PySem.Spec PyProof.Rows L2 Evl
open LB (Deed Lf P Hd S Mk Co Ev StOk)
def spIf (K : PySem.W.Frag) (C TL : Addr) (dp : Nat) : Sp := fun vs H Q E => vs.length = 3 ∧ ∃ a x pb d m s e p1 p2 A k, vs = [.ref a, x, .ref pb] ∧ GoAt K C H a d m s s.met.length ∧ Dp K H x (.tuple (hdD (.ite e p1 p2))) ∧ isPath H pb (A ++ [k]) ∧ (Hd.ite e p1 p2).ok dp ∧ 1 ≤ dp ∧ hdSize (.ite e p1 p2) ≤ 400 ∧ A.length + 2 * dp ≤ 100 ∧ StOk s ∧ MkOk m ∧ s.met.length ≤ 20000 ∧
  Fin K C TL H a d m s (LB.hdSem xr bt m (.ite e p1 p2) (A ++ [k]) s.co) (fun H' => Q .non H') E
section
variable {K : PySem.W.Frag} {C TL : Addr} {H : Hp} {a : Addr} {d : Ad} {m : Mk} {s : S} {E : XK} {σ : L2.St} {i j : Nat} {ta tb te : TE} {z : Nat} {pb : Addr} {path : List Nat} {D : Ends} {tz : TS}
theorem q_ifM {e : Nat} {p1 p2 : P} {A : List Nat} {k dp : Nat} {Q : VK} {mm : Str} (F : Fin K C TL H a d m s (LB.hdSem xr bt m (.ite e p1 p2) (A ++ [k]) s.co) (fun H' => Q .non H') E) (G : GoAt K C H a d m s s.met.length) (hv : σ[i]? = some (some (.ref a))) (hs : ED K ta σ H (.tuple (hdD (.ite e p1 p2))))
    (hp : Ev tb σ H (.ref pb)) (hpb : isPath H pb (A ++ [k])) (hk : (Hd.ite e p1 p2).ok dp) (h1 : 1 ≤ dp) (hz : hdSize (.ite e p1 p2) ≤ 400) (hA : A.length + 2 * dp ≤ 100) (so : StOk s) (M : MkOk m) (hle : s.met.length ≤ 20000) (hl : (goF m s.beats d).lookup mm = none := by rfl) :
    tMeth C mm (spIf K C TL dp) [] E (tVar i) (tCons ta (tCons tb tNil)) σ H Q :=
  ⟨_, hv, a, d.dx, _, rfl, G.ins, hl, hs H (Ex.refl H) _ fun x H1 e1 hx => hp H1 e1 _ fun H2 e2 => ⟨rfl, a, x, pb, d, m, s, e, p1, p2, A, k, rfl, G.ex (e1.trans e2), hx.ex e2, hpb.ex (e1.trans e2), hk, h1, hz, hA, so, M, hle, F.ex (e1.trans e2)⟩⟩
theorem ed_went (G : GoAt K C H a d m s z) (c : GoC K C) (hv : σ[i]? = some (some (.ref a))) (hp : σ[j]? = some (some (.ref pb))) (hpb : isPath H pb path) : ED K (tDGet2 (tFld K (tVar i) "went") (tVar j) (tC (.bl true))) σ H (.bool (s.went path)) := fun H1 e Q q => by
  obtain ⟨kvs, w1, w2, w3⟩ := G.wt
  refine f_went G c hv H1 e _ fun H2 e2 => ?_
  have e02 := e.trans e2
  refine ⟨d.lw, rfl, .inr ⟨kvs, .inl (e02 _ _ w1)⟩, _, hp, valV kvs (path.map kN), DGet.t (e02 _ _ w1) (hpb.ex e02), ?_⟩
  rw [w3 path]
  exact q _ H2 e2 (.bl _)
theorem qd_put {f : Bool} (G : GoAt K C H a d m s z) (c : GoC K C) (hv : σ[i]? = some (some (.ref a))) (hp : σ[j]? = some (some (.ref pb))) (hpb : isPath H pb path) (he : ED K te σ H (.bool f)) (hz : z < 50000)
    (k : ∀ H1, GoAt K C H1 a d m { s with went := LB.goesPath s.went path f } (z + 1) → Nx a d H d H1 → tz D σ H1) : tSeq (sDPut (tFld K (tVar i) "went") (tVar j) te) tz D σ H := by
  obtain ⟨kvs, w1, w2, w3⟩ := G.wt
  refine he H (Ex.refl H) _ fun v H1 e1 hvv => f_went (G.ex e1) c hv H1 (Ex.refl H1) _ fun H2 e2 => ?_
  obtain rfl := dp_bl hvv
  have e02 := e1.trans e2
  refine ⟨_, hp, d.lw, _, rfl, DPut.t (k := path.map kN) (e02 _ _ w1) (hpb.ex e02) (sz_lt (by omega)), ?_⟩
  refine k _ ((G.ex e02).setWt (Nat.le_trans (length_putK _ _ _) (by omega)) fun p => ?_) ((Nx.ex e02).trans (Nx.upd own_lw))
  rw [valV_put]
  unfold LB.goesPath
  by_cases h : p = path
  · subst h
    rw [if_pos rfl, if_pos rfl]
    rfl
  · rw [if_neg (fun q => h (kN_inj q)), if_neg h]
    exact w3 p
end
theorem ne_bl (a b : Bool) : (!decide (V.bl a = V.bl b)) = decide (a ≠ b) := by cases a <;> cases b <;> rfl
section
variable {Pg : Program} {w : World} {K : PySem.W.Frag} {mg : Str → Option Value} {base : Heap} {dF dB aSt aOt aMm C TL : Addr}
abbrev s_Going_do_if : Stmt := inClass (top 51) 8
theorem sc_Going_do_if : FnScope ["self", "step", "path", "is_first", "is_wrong", "beat"] ["self", "step", "path"] (defScope s_Going_do_if) := ⟨rfl, rfl, rfl, by decide +kernel, rfl, by decide +kernel, by decide +kernel⟩
theorem m_do_if' (D : DfM K C "do_if" "Going.do_if" s_Going_do_if ["self", "step", "path"]) (T : Txt K mg w dF dB aSt aOt aMm) (c : GoC K C) {dp : Nat} (m_meet : MtX Pg w K mg base 1 C "meet" (spMeet K C TL)) (m_begin : Mt Pg w K mg base 4 C "begin" (spM K C 2 R_begin)) (m_go : MtX Pg w K mg base (3 + 3 * (dp + 1)) C "go" (spGo K C TL dp)) :
    MtX Pg w K mg base (3 + 3 * (dp + 1) + 1) C "do_if" (spIf K C TL (dp + 1)) := by
  refine D.mtx sc_Going_do_if (fun vs H Q E h => h.1) (fun f cdv A outer s H vs Q E hr h => ?_)
  have tkx := takes_of (X := cxOf (L2.CX Pg w) Pg w K mg base ["self", "step", "path", "is_first", "is_wrong", "beat"] "Going.do_if" (defScope s_Going_do_if) f cdv A outer s H E) rfl rfl rfl rfl
  refine ⟨_, (pss_cons (ps_set (i := 3) sc_Going_do_if.nd rfl (Or.inl rfl) (pe_cmpR op_ne (pe_ix ix_list (pe_fld (pv 0) rfl) (pe_ix ix_tup (pv 1) pe_int (fun _ _ => rfl)) (fun _ _ => rfl)) pe_int (nomark _)))
    (pss_cons (ps_set (i := 4) sc_Going_do_if.nd rfl (Or.inl rfl) (pe_cmpR op_ne (pe_dget2 (hu_of hr) (pe_fld (pv 0) rfl) (pv 2) pe_bl (by constructor <;> rfl)) (pv 3) (nomark _)))
    (pss_cons (ps_dput (hu_of hr) (pe_fld (pv 0) rfl) (pv 2) (pv 3) rfl)
    (pss_cons (ps_set (i := 5) sc_Going_do_if.nd rfl (Or.inl rfl) (pe_fld (pv 0) rfl))
    (pss_cons (ps_expr (pe_mx m_meet hr (by omega) (pv 0) tkx (fun _ _ _ _ h => h) (pa_cons (pv 2) (pa_cons (pe_ifExp (pt_val (pv 4)) (pe_op op_add pe_int (pe_fld (pv 0) rfl)) pe_int) pa_nil))))
    (pss_cons (ps_if (pt_val (pv 4)) (pss_one (ps_expr (pe_m m_begin hr (by omega) (pv 0) (pa_cons (pe_ifExp (pt_val (pv 3)) (pe_ix ix_tup (pv 1) pe_int (fun _ _ => rfl)) (pe_ix ix_tup (pv 1) pe_int (fun _ _ => rfl))) (pa_cons (pv 5) pa_nil))))) pss_nil)
    (pss_one (ps_if (pt_val (pv 3)) (pss_one (ps_expr (pe_mx m_go hr (by omega) (pv 0) tkx (fun _ _ _ _ h => h) (pa_cons (pe_ix ix_tup (pv 1) pe_int (fun _ _ => rfl)) (pa_cons (pe_op op_catA (pv 2) (pe_tup (pa_cons pe_int pa_nil))) pa_nil))))) (pss_one (ps_expr (pe_mx m_go hr (by omega) (pv 0) tkx (fun _ _ _ _ h => h) (pa_cons (pe_ix ix_tup (pv 1) pe_int (fun _ _ => rfl)) (pa_cons (pe_op op_catA (pv 2) (pe_tup (pa_cons pe_int pa_nil))) pa_nil)))))))))))))
    , ?_⟩
  obtain ⟨_, a, x, pb, d, m, st, e, p1, p2, B, k, rfl, G, h1, hpb, hk, h1d, hz, hB, so, M, hle, F⟩ := h
  obtain ⟨he32, hk1, hk2⟩ := hk
  have hst : ∀ (j : Int) (z : PyData), atI (hdD (.ite e p1 p2)) j = some z → ∀ {σ : L2.St}, σ[1]? = some (some x) → ∀ {H1 : Hp}, Dp K H1 x (.tuple (hdD (.ite e p1 p2))) → ED K (tOp (rIxT K) (tVar 1) (tC (.int j))) σ H1 z := fun j z hj σ hσ H1 hx => ed_ixT (ed_var hσ hx) ed_int hj
  refine qd_asg (K := K) (d := .bool (decide (st.boxes.getD e 0 ≠ 0))) (ed_is (ed_neI (ed_box (f_boxesD (i := 0) G c rfl) (hst 1 (nD e) rfl rfl h1) (by rw [so.good.n]; exact he32)) ed_int) (by simp)) fun vf H1 e1 hvf => ?_
  obtain rfl := dp_bl hvf
  have G1 := G.ex e1
  have hpb1 := hpb.ex e1
  refine qd_asg (K := K) (d := .bool (decide (st.went (B ++ [k]) ≠ decide (st.boxes.getD e 0 ≠ 0)))) (ed_is (ed_ne (ed_went (i := 0) (j := 2) G1 c rfl rfl hpb1) (ed_var (i := 3) rfl (.bl _)) rfl rfl rfl) (congrArg PyData.bool (ne_bl _ _))) fun vw H2 e2 hvw => ?_
  obtain rfl := dp_bl hvw
  have G2 := G1.ex e2
  refine qd_put (K := K) (i := 0) (j := 2) (path := B ++ [k]) (f := decide (st.boxes.getD e 0 ≠ 0)) G2 c rfl rfl (hpb1.ex e2) (ed_var (i := 3) rfl (.bl _)) (by omega) fun H3 G3 x3 => ?_
  have x03 := (Nx.ex (e1.trans e2)).trans x3
  refine qd_asg (K := K) (f_beats (i := 0) G3 c rfl) fun vb H4 e4 hvb => ?_
  obtain rfl := dp_int hvb
  have x04 := x03.trans (Nx.ex e4)
  have G4 := G3.ex e4
  have hpb4 := hpb.nx x04 G
  have hx4 := h1.tx (x04.tx G) (tdat_hd _)
  have F4 := F.nx x04
  refine q_sq ?_
  refine q_meet (K := K) (i := 0) (s := { st with went := LB.goesPath st.went (B ++ [k]) (decide (st.boxes.getD e 0 ≠ 0)) }) (path := B ++ [k]) (more := if st.went (B ++ [k]) ≠ decide (st.boxes.getD e 0 ≠ 0) then 1 + (m.wrong : Int) else 1) (F4.full (by exact fun h => nomatch h)) hle G4 rfl (ed_var (i := 2) rfl hpb4.dp) (ed_if (b := decide (st.went (B ++ [k]) ≠ decide (st.boxes.getD e 0 ≠ 0))) (et_dB (K := K) (ed_var (i := 4) rfl (.bl _))) (fun hb => ed_is (ed_add (ed_int (i := 1)) (f_wrong (i := 0) G4 c rfl)) (by rw [if_pos (of_decide_eq_true hb)])) (fun hb => ed_is (ed_int (i := 1)) (by rw [if_neg (of_decide_eq_false hb)]))) fun hlt v5 H5 G5 x5 => ?_
  have x05 := x04.trans x5
  have hpb5 := hpb.nx x05 G
  have hx5 := h1.tx (x05.tx G) (tdat_hd _)
  have hco : (st.add ((LB.iffy xr m e p1 p2 (B ++ [k]) st.co).1, [(LB.iffy xr m e p1 p2 (B ++ [k]) st.co).2])).co = (LB.iffy xr m e p1 p2 (B ++ [k]) st.co).1 := rfl
  have hlt' : st.met.length < 20000 := hlt
  have cont : ∀ d5 H5 z5, z5 ≤ st.met.length + 1 → GoAt K C H5 a d5 m (st.add ((LB.iffy xr m e p1 p2 (B ++ [k]) st.co).1, [(LB.iffy xr m e p1 p2 (B ++ [k]) st.co).2])) z5 → Nx a d H d5 H5 →
      tIfS (tB (tVar 3)) (tDrop (tMeth C "go" (spGo K C TL dp) [] E (tVar 0) (tCons (tOp (rIxT K) (tVar 1) (tC (.int 2))) (tCons (tOp (rCatA K) (tVar 2) (tTup (tCons (tC (.int 0)) tNil))) tNil))))
        (tDrop (tMeth C "go" (spGo K C TL dp) [] E (tVar 0) (tCons (tOp (rIxT K) (tVar 1) (tC (.int 3))) (tCons (tOp (rCatA K) (tVar 2) (tTup (tCons (tC (.int 1)) tNil))) tNil)))) { nx := fun _ H' => Q .non H', rt := Q }
        [some (.ref a), some x, some (.ref pb), some (.bl (decide (st.boxes.getD e 0 ≠ 0))), some (.bl (decide (st.went (B ++ [k]) ≠ decide (st.boxes.getD e 0 ≠ 0)))), some (.int st.beats)] H5 := by
    intro d5 H5 z5 hz5 G5 x05
    have hpb5 := hpb.nx x05 G
    have hx5 := h1.tx (x05.tx G) (tdat_hd _)
    have hm5 : (st.add ((LB.iffy xr m e p1 p2 (B ++ [k]) st.co).1, [(LB.iffy xr m e p1 p2 (B ++ [k]) st.co).2])).met.length = st.met.length + 1 := LB.S.add_met _ _
    have F5 := F.step ((LB.iffy xr m e p1 p2 (B ++ [k]) st.co).1, [(LB.iffy xr m e p1 p2 (B ++ [k]) st.co).2]) (if st.boxes.getD e 0 ≠ 0 then LB.sem xr bt m p1 (B ++ [k] ++ [0]) 0 (LB.iffy xr m e p1 p2 (B ++ [k]) st.co).1 else LB.sem xr bt m p2 (B ++ [k] ++ [1]) 0 (LB.iffy xr m e p1 p2 (B ++ [k]) st.co).1) rfl x05
    have so5 : StOk (st.add ((LB.iffy xr m e p1 p2 (B ++ [k]) st.co).1, [(LB.iffy xr m e p1 p2 (B ++ [k]) st.co).2])) := so.add M so.good (LB.iffy_near m M.near e p1 p2 _ so.near) fun ev hev => by
      rw [List.mem_singleton.mp hev]
      exact LB.iffy_ok ops m hk1 hk2 _ so.good
    have hsz : p1.size ≤ 400 ∧ p2.size ≤ 400 := by
      have h : 1 + (p1.size + (p2.size + 0)) ≤ 400 := hz
      omega
    refine s_if (b := decide (st.boxes.getD e 0 ≠ 0)) (et_dB (K := K) (ed_var (i := 3) rfl (.bl _))) (fun hb H6 e6 => ?_) (fun hb H6 e6 => ?_)
    · rw [if_pos (of_decide_eq_true hb)] at F5
      exact q_go (K := K) (i := 0) (F5.ex e6) ((G5.le (by rw [hm5]; exact hz5)).ex e6) rfl (hst 2 (.tuple (progD p1)) rfl rfl (hx5.ex e6)) (by
        unfold pathD
        rw [List.map_append]
        exact ed_catT (ed_var (i := 2) rfl (hpb5.dp.ex e6)) (ed_tup (eda_cons (ed_c (v := .int 0) (.int 0)) eda_nil) (Nat.le_of_ble_eq_true rfl)) (by rw [List.length_map, List.length_append]; show _ + 1 + 1 ≤ _; omega)) hk1 hsz.1 (by rw [List.length_append, List.length_append]; show _ + 1 + 1 + _ ≤ _; omega) so5 M (by rw [hm5]; omega)
    · rw [if_neg (of_decide_eq_false hb)] at F5
      exact q_go (K := K) (i := 0) (F5.ex e6) ((G5.le (by rw [hm5]; exact hz5)).ex e6) rfl (hst 3 (.tuple (progD p2)) rfl rfl (hx5.ex e6)) (by
        unfold pathD
        rw [List.map_append]
        exact ed_catT (ed_var (i := 2) rfl (hpb5.dp.ex e6)) (ed_tup (eda_cons (ed_c (v := .int 1) (.int 1)) eda_nil) (Nat.le_of_ble_eq_true rfl)) (by rw [List.length_map, List.length_append]; show _ + 1 + 1 ≤ _; omega)) hk2 hsz.2 (by rw [List.length_append, List.length_append]; show _ + 1 + 1 + _ ≤ _; omega) so5 M (by rw [hm5]; omega)
  refine q_when (b := decide (st.went (B ++ [k]) ≠ decide (st.boxes.getD e 0 ≠ 0))) (et_dB (K := K) (ed_var (i := 4) rfl (.bl _))) (fun hb H6 e6 => ?_) (fun hb H6 e6 => ?_)
  · have hw := of_decide_eq_true hb
    have G6 := G5.ex e6
    refine LW.m_go (K := K) (i := 0) (n := 2) (R := R_begin) (ds := [.tuple (progD (if decide (st.boxes.getD e 0 ≠ 0) = true then p2 else p1)), .int st.beats]) G6 rfl (eda_cons (ed_if (b := decide (st.boxes.getD e 0 ≠ 0)) (et_dB (K := K) (ed_var (i := 3) rfl (.bl _))) (fun hf => ed_is (hst 3 (.tuple (progD p2)) rfl rfl (hx5.ex e6)) (by rw [if_pos hf])) (fun hf => ed_is (hst 2 (.tuple (progD p1)) rfl rfl (hx5.ex e6)) (by rw [if_neg (by rw [hf]; decide)]))) (eda_cons (ed_var (i := 5) rfl (.int _)) eda_nil))
      ⟨_, dp, st.beats, rfl, ?_, so.good, M, Nat.le_trans so.near (by decide), ?_, rfl, rfl⟩ fun v7 d7 H7 G7 x7 _ => ?_
    · split
      · exact hk2
      · exact hk1
    · have := so.tch
      show st.touches.length < 99990
      omega
    · refine cont d7 H7 _ (Nat.le_refl _) ?_ (x05.trans ((Nx.ex e6).trans x7))
      have hs : begun m (metS { st with went := LB.goesPath st.went (B ++ [k]) (decide (st.boxes.getD e 0 ≠ 0)) } (B ++ [k]) (if st.went (B ++ [k]) ≠ decide (st.boxes.getD e 0 ≠ 0) then 1 + (m.wrong : Int) else 1)) (if decide (st.boxes.getD e 0 ≠ 0) = true then p2 else p1) st.beats = st.add ((LB.iffy xr m e p1 p2 (B ++ [k]) st.co).1, [(LB.iffy xr m e p1 p2 (B ++ [k]) st.co).2]) := by
        unfold begun metS LB.iffy LB.S.add LB.S.co
        simp only [if_pos hw, LB.toldOf, LB.dursOf, LB.touchesOf, LB.metOf, LB.tchs, roomsOf, List.append_nil, Int.add_zero, Option.toList]
      rw [← hs]
      exact G7
  · have hw := of_decide_eq_false hb
    refine cont d H6 _ (Nat.le_refl _) ?_ (x05.trans (Nx.ex e6))
    have hs : metS { st with went := LB.goesPath st.went (B ++ [k]) (decide (st.boxes.getD e 0 ≠ 0)) } (B ++ [k]) (if st.went (B ++ [k]) ≠ decide (st.boxes.getD e 0 ≠ 0) then 1 + (m.wrong : Int) else 1) = st.add ((LB.iffy xr m e p1 p2 (B ++ [k]) st.co).1, [(LB.iffy xr m e p1 p2 (B ++ [k]) st.co).2]) := by
      unfold metS LB.iffy LB.S.add LB.S.co
      simp only [if_neg hw, LB.toldOf, LB.dursOf, LB.touchesOf, LB.metOf, LB.tchs, List.append_nil, Int.add_zero, Option.toList, List.map_nil]
    rw [← hs]
    exact G5.ex e6
end
end LW
namespace LW
open PySem PySem.Spec PyProof.Rows L2 Evl
open LB (Deed Lf P Hd S Mk Co Ev StOk)
theorem qd_sq {te : TE} {tz : TS} {D : Ends} {σ : L2.St} {H : Hp} (h : te σ H fun _ H' => tz D σ H') : tSeq (tDrop te) tz D σ H := h
theorem metS_tick (s : S) (h : Hd) (path : List Nat) : metS s path 1 = s.add (s.co, [LB.tick h path]) := by
  unfold metS LB.tick LB.S.add LB.S.co
  simp only [LB.toldOf, LB.dursOf, LB.touchesOf, LB.metOf, LB.tchs, List.append_nil, Int.add_zero, Option.toList, List.map_nil]
section
variable {K : PySem.W.Frag} {C TL : Addr} {H : Hp} {a : Addr} {d : Ad} {m : Mk} {s : S} {E : XK} {σ : L2.St} {i j : Nat} {ta tb te : TE} {z : Nat} {pb : Addr} {path : List Nat} {D : Ends} {tz : TS} {R : Hp → Prop} {x : V}
theorem turn_body {hh : Hd} {b : P} {g : Co → Co × List Ev} {dp : Nat} (F : Fin K C TL H a d m s (LB.thenE (LB.rep (fun c1 => LB.pre (LB.tick hh path) (LB.sem xr bt m b (path ++ [0]) 0 c1)) (j + 1) s.co) g) R E) (G : GoAt K C H a d m s s.met.length) (so : StOk s) (M : MkOk m) (hle : s.met.length ≤ 20000) (hev : LB.EvOk m (LB.tick hh path))
    (h0 : σ[0]? = some (some (.ref a))) (h1 : σ[1]? = some (some x)) (hx : Dp K H x (.tuple (hdD hh))) (hat : atI (hdD hh) 2 = some (.tuple (progD b))) (h2 : σ[2]? = some (some (.ref pb))) (hpb : isPath H pb path) (hk : b.ok dp) (hz : b.size ≤ 400) (hA : path.length + 1 + 2 * dp ≤ 100)
    (k : ∀ d2 s2 H2, GoAt K C H2 a d2 m s2 s2.met.length → Nx a d H d2 H2 → StOk s2 → s2.met.length ≤ 20000 → Fin K C TL H2 a d2 m s2 (LB.thenE (LB.rep (fun c1 => LB.pre (LB.tick hh path) (LB.sem xr bt m b (path ++ [0]) 0 c1)) j s2.co) g) R E → D.nx σ H2) :
    tSeq (tDrop (tMeth C "meet" (spMeet K C TL) [] E (tVar 0) (tCons (tVar 2) (tCons (tC (.int 1)) tNil)))) (tDrop (tMeth C "go" (spGo K C TL dp) [] E (tVar 0) (tCons (tOp (rIxT K) (tVar 1) (tC (.int 2))) (tCons (tOp (rCatA K) (tVar 2) (tTup (tCons (tC (.int 0)) tNil))) tNil)))) D σ H := by
  refine qd_sq ?_
  refine q_meet (K := K) (i := 0) (s := s) (path := path) (more := 1) (F.full (by exact fun h => nomatch h)) hle G h0 (ed_var h2 hpb.dp) ed_int fun hlt v1 H1 G1 x1 => ?_
  have F1 := F.step (s.co, [LB.tick hh path]) ((g (LB.rep (fun c1 => LB.pre (LB.tick hh path) (LB.sem xr bt m b (path ++ [0]) 0 c1)) j (LB.sem xr bt m b (path ++ [0]) 0 s.co).1).1).1,
    ((LB.sem xr bt m b (path ++ [0]) 0 s.co).2 ++ (LB.rep (fun c1 => LB.pre (LB.tick hh path) (LB.sem xr bt m b (path ++ [0]) 0 c1)) j (LB.sem xr bt m b (path ++ [0]) 0 s.co).1).2) ++ (g (LB.rep (fun c1 => LB.pre (LB.tick hh path) (LB.sem xr bt m b (path ++ [0]) 0 c1)) j (LB.sem xr bt m b (path ++ [0]) 0 s.co).1).1).2) rfl x1
  rw [metS_tick s hh path] at G1
  have so1 := so.tick M hh path hev
  have hm1 : (s.add (s.co, [LB.tick hh path])).met.length = s.met.length + 1 := LB.S.add_met _ _
  obtain ⟨s1, hs1, hco⟩ : ∃ s1, s1 = s.add (s.co, [LB.tick hh path]) ∧ s1.co = s.co := ⟨_, rfl, rfl⟩
  rw [← hs1] at F1 G1 so1 hm1
  rw [← hco] at F1
  refine q_go (K := K) (i := 0) (dp := dp) (A := path ++ [0]) (p := b) (F1.call (LB.sem xr bt m b (path ++ [0]) 0 s1.co) (LB.thenE (LB.rep (fun c1 => LB.pre (LB.tick hh path) (LB.sem xr bt m b (path ++ [0]) 0 c1)) j (s1.add (LB.sem xr bt m b (path ++ [0]) 0 s1.co)).co) g) (by show (_, (_ ++ _) ++ _) = (_, _ ++ (_ ++ _)); rw [List.append_assoc]; rfl) fun hl2 d2 H2 G2 x2 F2 => ?_) (G1.le (by omega)) h0 (ed_ixT (ed_var h1 (hx.tx (x1.tx G) (tdat_hd _))) ed_int hat) (by
    unfold pathD
    rw [List.map_append]
    exact ed_catT (ed_var h2 ((hpb.nx x1 G).dp)) (ed_tup (eda_cons (ed_c (v := .int 0) (.int 0)) eda_nil) (Nat.le_of_ble_eq_true rfl)) (by rw [List.length_map]; show _ + 1 ≤ _; omega)) hk hz (by rw [List.length_append]; exact hA) so1 M (by omega)
  exact k d2 _ H2 G2 (x1.trans x2) (so1.sem ops M hk _ _) (by rw [LB.S.add_met]; exact hl2) F2
theorem qd_addBeats {b : Int} (G : GoAt K C H a d m s z) (c : GoC K C) (hv : σ[i]? = some (some (.ref a))) (h : ED K te σ H (.int b)) (k : ∀ H1, GoAt K C H1 a d m { s with beats := s.beats + b } z → Nx a d H d H1 → tz D σ H1) : tSeq (sFldAug K (tVar i) te rAdd "beats") tz D σ H :=
  ⟨_, hv, a, C, d.dx, _, _, rfl, G.ins, c.cls, c.na _ (mem_f 8 rfl), rfl, h H (Ex.refl H) _ fun v H1 e1 hv1 => by
    obtain rfl := dp_int hv1
    exact ⟨s.beats, b, rfl, rfl, d.dx, _, (G.ex e1).ins, (by show 13 < 1000; decide), k _ ((G.ex e1).setBe (s.beats + b)) ((Nx.ex e1).trans (Nx.upd own_a))⟩⟩
end
theorem in_loops (h : Hd) : inV (.str (hdN h)) [.str "round", .str "turn"] = (match h with | .rnd _ _ => true | .trn _ _ => true | _ => false) := by
  cases h with
  | lf x =>
    cases x with
    | deed d =>
      cases d with
      | op2 o b c e => cases o <;> rfl
      | _ => rfl
    | _ => rfl
  | _ => rfl
theorem in_if (h : Hd) : decide (hdN h = ("if" : Str)) = h.isIf := by
  cases h with
  | lf x =>
    cases x with
    | deed d =>
      cases d with
      | op2 o b c e => cases o <;> rfl
      | _ => rfl
    | _ => rfl
  | _ => rfl
section
variable {Pg : Program} {w : World} {K : PySem.W.Frag} {mg : Str → Option Value} {base : Heap} {dF dB aSt aOt aMm C TL : Addr}
abbrev s_Going_do : Stmt := inClass (top 51) 3
theorem sc_Going_do : FnScope ["self", "step", "path", "word", "turn", "is_near", "found"] ["self", "step", "path"] (defScope s_Going_do) := ⟨rfl, rfl, rfl, by decide +kernel, rfl, by decide +kernel, by decide +kernel⟩
theorem m_do' (D : DfM K C "do" "Going.do" s_Going_do ["self", "step", "path"]) (T : Txt K mg w dF dB aSt aOt aMm) (c : GoC K C) {dp : Nat} (m_meet : MtX Pg w K mg base 1 C "meet" (spMeet K C TL)) (m_touch : Mt Pg w K mg base 2 C "touch" (spM K C 3 R_touch)) (m_do_table : Mt Pg w K mg base 2 C "do_table" (spM K C 1 R_do_table))
    (m_beats_more : Mt Pg w K mg base 1 C "beats_more" (spM0 K C 2 R_beats_more)) (c_deed_told : Cl Pg w K mg base 3 "deed_told" (spD K 2 R_deed_told)) (m_go : MtX Pg w K mg base (3 + 3 * (dp + 1)) C "go" (spGo K C TL dp)) (m_do_if : MtX Pg w K mg base (3 + 3 * (dp + 1) + 1) C "do_if" (spIf K C TL (dp + 1))) :
    MtX Pg w K mg base (4 + 3 * (dp + 1) + 1) C "do" (spDo K C TL (dp + 1)) := by
  refine D.mtx sc_Going_do (fun vs H Q E h => h.1) (fun f cdv A outer s H vs Q E hr h => ?_)
  have tkx := takes_of (X := cxOf (L2.CX Pg w) Pg w K mg base ["self", "step", "path", "word", "turn", "is_near", "found"] "Going.do" (defScope s_Going_do) f cdv A outer s H E) rfl rfl rfl rfl
  refine ⟨_, (pss_cons (ps_set (i := 3) sc_Going_do.nd rfl (Or.inl rfl) (pe_ix ix_tup (pv 1) pe_int (fun _ _ => rfl)))
    (pss_one (ps_if (pt_cmpR op_eq (pv 3) pe_str (nomark _)) (pss_one (ps_expr (pe_mx m_do_if hr (by omega) (pv 0) tkx (fun _ _ _ _ h => h) (pa_cons (pv 1) (pa_cons (pv 2) pa_nil))))) (pss_one (ps_if (pt_cmpR op_in_seq (pv 3) (pe_tup (pa_cons pe_str (pa_cons pe_str pa_nil))) (by rfl)) (pss_cons (ps_for (passes_of rfl) rfl (pi_range1 rfl T.n_range (pa_cons (pe_ifExp (pt_cmpR op_eq (pv 3) pe_str (nomark _)) (pe_ix ix_tup (pv 1) pe_int (fun _ _ => rfl)) (pe_ix ix_list (pe_fld (pv 0) rfl) (pe_ix ix_tup (pv 1) pe_int (fun _ _ => rfl)) (fun _ _ => rfl))) pa_nil)) (pg_name (i := 4) sc_Going_do.nd rfl (Or.inl rfl))
    (pss_cons (ps_expr (pe_mx m_meet hr (by omega) (pv 0) tkx (fun _ _ _ _ h => h) (pa_cons (pv 2) (pa_cons pe_int pa_nil))))
    (pss_one (ps_expr (pe_mx m_go hr (by omega) (pv 0) tkx (fun _ _ _ _ h => h) (pa_cons (pe_ix ix_tup (pv 1) pe_int (fun _ _ => rfl)) (pa_cons (pe_op op_catA (pv 2) (pe_tup (pa_cons pe_int pa_nil))) pa_nil)))))))
    (pss_one (ps_if (pt_cmpR op_eq (pv 3) pe_str (nomark _)) (pss_one (ps_expr (pe_mx m_meet hr (by omega) (pv 0) tkx (fun _ _ _ _ h => h) (pa_cons (pv 2) (pa_cons pe_int pa_nil))))) pss_nil))) (pss_one (ps_if (pt_cmpR op_in_seq (pv 3) (pe_gc rfl T.g_OF_TABLES) (by rfl)) (pss_cons (ps_expr (pe_mx m_meet hr (by omega) (pv 0) tkx (fun _ _ _ _ h => h) (pa_cons (pv 2) (pa_cons pe_int pa_nil))))
    (pss_cons (ps_set (i := 5) sc_Going_do.nd rfl (Or.inl rfl) (pe_m m_touch hr (by omega) (pv 0) (pa_cons (pv 1) (pa_cons (pe_fld (pv 0) rfl) (pa_cons (pe_fld (pv 0) rfl) pa_nil)))))
    (pss_cons (ps_fldaug (pv 0) (pe_ifExp (pt_val (pv 5)) pe_int (pe_op op_add pe_int (pe_fld (pv 0) rfl))) in_add)
    (pss_one (ps_expr (pe_m m_do_table hr (by omega) (pv 0) (pa_cons (pv 1) pa_nil))))))) (pss_one (ps_if (pt_cmpR op_eq (pv 3) pe_str (nomark _)) (pss_cons (ps_expr (pe_mx m_meet hr (by omega) (pv 0) tkx (fun _ _ _ _ h => h) (pa_cons (pv 2) (pa_cons pe_int pa_nil))))
    (pss_one (ps_expr (pe_bm PySem.F.plainAttrs_list PySem.F.slot_list_append PySem.F.type_list_append mt_append (pe_fld (pv 0) rfl) (pa_cons (pe_ix ix_list (pe_fld (pv 0) rfl) (pe_ix ix_tup (pv 1) pe_int (fun _ _ => rfl)) (fun _ _ => rfl)) pa_nil))))) (pss_one (ps_if (pt_cmpR op_eq (pv 3) pe_str (nomark _)) (pss_one (ps_expr (pe_mx m_meet hr (by omega) (pv 0) tkx (fun _ _ _ _ h => h) (pa_cons (pv 2) (pa_cons (pe_ix ix_tup (pv 1) pe_int (fun _ _ => rfl)) pa_nil))))) (pss_cons (ps_set (i := 6) sc_Going_do.nd rfl (Or.inl rfl) (pe_u c_deed_told hr (by omega) rfl (pa_cons (pv 1) (pa_cons (pe_fld (pv 0) rfl) pa_nil))))
    (pss_cons (ps_expr (pe_mx m_meet hr (by omega) (pv 0) tkx (fun _ _ _ _ h => h) (pa_cons (pv 2) (pa_cons (pe_op op_add pe_int (pe_m m_beats_more hr (by omega) (pv 0) (pa_cons (pv 1) (pa_cons (pv 6) pa_nil)))) pa_nil))))
    (pss_one (ps_asg (pv 6) (pg_sub (pe_fld (pv 0) rfl) (pe_ix ix_tup (pv 1) pe_int (fun _ _ => rfl)) set_list))))))))))))))))
    , ?_⟩
  obtain ⟨_, a, x, pb, d, m, st, hh, B, k, rfl, G0, h1', hpb0, hk, h1d, hz, hB, so, M, hle, F0⟩ := h
  refine qd_asg (K := K) (d := .str (hdN hh)) (ed_ixT (ed_var rfl h1') ed_int (hdD_at0 hh)) fun vn H0 e0 hvn => ?_
  obtain rfl := dp_str hvn
  have G := G0.ex e0
  have hpb := hpb0.ex e0
  have h1 := h1'.ex e0
  have F := F0.ex e0
  have word : ∀ {σ : L2.St} {H1 : Hp}, σ[3]? = some (some (.str (hdN hh))) → ED K (tVar 3) σ H1 (.str (hdN hh)) := fun h => ed_var h (.str _)
  have t_if : ∀ {σ : L2.St} {H1 : Hp}, σ[3]? = some (some (.str (hdN hh))) → EvT (tTest (tOp rEq (tVar 3) (tC (.str "if")))) σ H1 hh.isIf := fun h => et_d (K := K) (ed_eqS (word h) (ed_c (.str "if")) (in_if hh))
  have t_lo : ∀ {σ : L2.St} {H1 : Hp}, σ[3]? = some (some (.str (hdN hh))) → EvT (tTest (tOp (rIn K false) (tVar 3) (tTup (tCons (tC (.str "round")) (tCons (tC (.str "turn")) tNil))))) σ H1 (match hh with | .rnd _ _ => true | .trn _ _ => true | _ => false) := fun h =>
    et_d (ed_inT (word h) (ed_tup (eda_cons (ed_c (.str "round")) (eda_cons (ed_c (.str "turn")) eda_nil)) (Nat.le_of_ble_eq_true rfl)) (x := .str (hdN hh)) (xs := [.str "round", .str "turn"]) rfl rfl rfl rfl (in_loops hh))
  have t_eq : ∀ (zz : Str) {b : Bool}, decide (hdN hh = zz) = b → ∀ {σ : L2.St} {H1 : Hp}, σ[3]? = some (some (.str (hdN hh))) → EvT (tTest (tOp rEq (tVar 3) (tC (.str zz)))) σ H1 b := fun zz b hb σ H1 h => et_d (K := K) (ed_eqS (word h) (ed_c (.str zz)) hb)
  have hfull := F.full (R := fun H' => Q .non H')
  cases hh with
  | ite e p1 p2 =>
    exact s_if (b := true) (t_if rfl) (fun _ H1 e1 => q_ifM (K := K) (i := 0) (A := B) (k := k) (F.ex e1) (G.ex e1) rfl (ed_var (i := 1) rfl (h1.ex e1)) (ev_var (i := 2) rfl) (hpb.ex e1) hk h1d hz hB so M hle) fun h => by cases h
  | rnd n b =>
    refine s_if (b := false) (t_if rfl) (fun h => by cases h) fun _ H1 e1 => ?_
    refine s_if (b := true) (t_lo rfl) (fun _ H2 e2 => ?_) fun h => by cases h
    have e02 := e1.trans e2
    have hrg : EDA K (tCons (tIf (tTest (tOp rEq (tVar 3) (tC (.str "round")))) (tOp (rIxT K) (tVar 1) (tC (.int 1))) (tOp (rIxL K) (tFld K (tVar 0) "boxes") (tOp (rIxT K) (tVar 1) (tC (.int 1))))) tNil) [some (.ref a), some x, some (.ref pb), some (.str "round"), none, none, none] H2 [.int (n : Int)] := eda_cons (ed_if (b := true) (t_eq "round" rfl rfl) (fun _ => ed_ixT (ed_var (i := 1) rfl (h1.ex e02)) ed_int rfl) fun h => by cases h) eda_nil
    refine q_forR1 (n := (n : Int)) (eva_i hrg) (by have := hk.2.1; omega) (fun i σ' H' => ∃ (d' : Ad) (s' : S) (v4 : Option V), σ' = [some (.ref a), some x, some (.ref pb), some (.str "round"), v4, none, none] ∧ i ≤ n ∧ GoAt K C H' a d' m s' s'.met.length ∧ Nx a d H2 d' H' ∧ StOk s' ∧ s'.met.length ≤ 20000 ∧
      Fin K C TL H' a d' m s' (LB.thenE (LB.rep (fun c1 => LB.pre (LB.tick (.rnd n b) (B ++ [k])) (LB.sem xr bt m b (B ++ [k] ++ [0]) 0 c1)) (n - i) s'.co) fun c1 => (c1, [])) (fun H' => Q .non H') E) (fun H3 e3 => ⟨d, st, none, rfl, Nat.zero_le _, (G.ex e02).ex e3, Nx.ex e3, so, hle, by
        rw [LB.thenE_nil, Nat.sub_zero]
        exact (F.ex e02).ex e3⟩) ?_ ?_
    · rintro i σ' H' hi ⟨d', s', v4, rfl, hil, G', nx, so', hle', F'⟩
      rw [show n - i = (n - (i + 1)) + 1 by omega] at F'
      have hpb' := (hpb.ex e02).nx nx (G.ex e02)
      refine turn_body (K := K) (x := x) F' G' so' M hle' (LB.tick_rnd m n b _) rfl rfl ((h1.ex e02).tx (nx.tx (G.ex e02)) (tdat_hd _)) rfl rfl hpb' hk.2.2 (by have h : 1 + (b.size + 0) ≤ 400 := hz; omega) (by rw [List.length_append]; show _ + 1 + 1 + _ ≤ _; omega) fun d2 s2 H3 G3 x3 so3 hle3 F3 => ?_
      exact ⟨d2, s2, _, rfl, by omega, G3, nx.trans x3, so3, hle3, F3⟩
    · rintro σ' H' ⟨d', s', v4, rfl, hil, G', nx, so', hle', F'⟩
      refine s_when (b := false) (t_eq "turn" rfl rfl) (fun h => by cases h) fun _ H3 e3 => ?_
      rw [show n - ((n : Int)).toNat = 0 by omega] at F'
      refine (F'.ex e3).ok (by show s'.met.length + 0 ≤ 20000; omega) d' H3 ?_ (Nx.refl _ _ _)
      show GoAt K C H3 a d' m (s'.add (s'.co, [])) (s'.add (s'.co, [])).met.length
      rw [LB.S.add_nil]
      exact G'.ex e3
  | trn e b =>
    refine s_if (b := false) (t_if rfl) (fun h => by cases h) fun _ H1 e1 => ?_
    refine s_if (b := true) (t_lo rfl) (fun _ H2 e2 => ?_) fun h => by cases h
    have e02 := e1.trans e2
    have hw : LB.Wd (st.boxes.getD e 0) := LB.wd_getD so.good.w e
    obtain ⟨w0, w1⟩ := hw
    have hrg : EDA K (tCons (tIf (tTest (tOp rEq (tVar 3) (tC (.str "round")))) (tOp (rIxT K) (tVar 1) (tC (.int 1))) (tOp (rIxL K) (tFld K (tVar 0) "boxes") (tOp (rIxT K) (tVar 1) (tC (.int 1))))) tNil) [some (.ref a), some x, some (.ref pb), some (.str "turn"), none, none, none] H2 [.int (st.boxes.getD e 0)] := eda_cons (ed_if (b := false) (t_eq "round" rfl rfl) (fun h => by cases h) fun _ => ed_box (f_boxesD (i := 0) (G.ex e02) c rfl) (ed_ixT (ed_var (i := 1) rfl (h1.ex e02)) (ed_int (i := 1)) rfl) (by rw [so.good.n]; exact hk.1)) eda_nil
    refine q_forR1 (n := st.boxes.getD e 0) (eva_i hrg) (by omega) (fun i σ' H' => ∃ (d' : Ad) (s' : S) (v4 : Option V), σ' = [some (.ref a), some x, some (.ref pb), some (.str "turn"), v4, none, none] ∧ i ≤ (st.boxes.getD e 0).toNat ∧ GoAt K C H' a d' m s' s'.met.length ∧ Nx a d H2 d' H' ∧ StOk s' ∧ s'.met.length ≤ 20000 ∧
      Fin K C TL H' a d' m s' (LB.thenE (LB.rep (fun c1 => LB.pre (LB.tick (.trn e b) (B ++ [k])) (LB.sem xr bt m b (B ++ [k] ++ [0]) 0 c1)) ((st.boxes.getD e 0).toNat - i) s'.co) fun c1 => (c1, [LB.tick (.trn e b) (B ++ [k])])) (fun H' => Q .non H') E) (fun H3 e3 => ⟨d, st, none, rfl, Nat.zero_le _, (G.ex e02).ex e3, Nx.ex e3, so, hle, by
        rw [Nat.sub_zero]
        exact (F.ex e02).ex e3⟩) ?_ ?_
    · rintro i σ' H' hi ⟨d', s', v4, rfl, hil, G', nx, so', hle', F'⟩
      rw [show (st.boxes.getD e 0).toNat - i = ((st.boxes.getD e 0).toNat - (i + 1)) + 1 by omega] at F'
      have hpb' := (hpb.ex e02).nx nx (G.ex e02)
      refine turn_body (K := K) (x := x) F' G' so' M hle' (LB.tick_trn m e b _) rfl rfl ((h1.ex e02).tx (nx.tx (G.ex e02)) (tdat_hd _)) rfl rfl hpb' hk.2 (by have h : 1 + (b.size + 0) ≤ 400 := hz; omega) (by rw [List.length_append]; show _ + 1 + 1 + _ ≤ _; omega) fun d2 s2 H3 G3 x3 so3 hle3 F3 => ?_
      exact ⟨d2, s2, _, rfl, by omega, G3, nx.trans x3, so3, hle3, F3⟩
    · rintro σ' H' ⟨d', s', v4, rfl, hil, G', nx, so', hle', F'⟩
      refine s_when (b := true) (t_eq "turn" rfl rfl) (fun _ H3 e3 => ?_) fun h => by cases h
      rw [Nat.sub_self] at F'
      have F3 := F'.ex e3
      have hpb3 := ((hpb.ex e02).nx nx (G.ex e02)).ex e3
      refine q_meet (K := K) (i := 0) (s := s') (path := B ++ [k]) (more := 1) (F3.full (by exact fun h => nomatch h)) hle' (G'.ex e3) rfl (ed_var (i := 2) rfl hpb3.dp) ed_int fun hlt v4 H4 G4 x4 => ?_
      rw [metS_tick s' (.trn e b) (B ++ [k])] at G4
      have hm4 : (s'.add (s'.co, [LB.tick (.trn e b) (B ++ [k])])).met.length = s'.met.length + 1 := LB.S.add_met _ _
      exact F3.ok (by show s'.met.length + 1 ≤ 20000; omega) d' H4 (G4.le (by show _ ≤ (s'.add (s'.co, [LB.tick (.trn e b) (B ++ [k])])).met.length; omega)) x4
  | lf xx =>
    have g := so.good
    have hst : ∀ (j : Int) (z : PyData), atI (lfD xx) j = some z → ∀ {σ : L2.St}, σ[1]? = some (some x) → ∀ {H1 : Hp}, Dp K H1 x (.tuple (lfD xx)) → ED K (tOp (rIxT K) (tVar 1) (tC (.int j))) σ H1 z := fun j z hj σ hσ H1 hx => ed_ixT (ed_var hσ hx) ed_int hj
    have fin : ∀ {d' : Ad} {H' : Hp} {s' : S} {z' : Nat}, st.met.length < 20000 → s' = st.add (LB.hdSem xr bt m (.lf xx) (B ++ [k]) st.co) → z' ≤ st.met.length + 1 → GoAt K C H' a d' m s' z' → Nx a d H0 d' H' → Q .non H' := fun {d' H' s' z'} hlt e hz G' x' => by
      subst e
      have hm : (st.add (LB.hdSem xr bt m (.lf xx) (B ++ [k]) st.co)).met.length = st.met.length + 1 := LB.S.add_met _ _
      exact F.ok (by show st.met.length + 1 ≤ 20000; omega) d' H' (G'.le (by omega)) x'
    refine s_if (b := false) (t_if rfl) (fun h => by cases h) fun _ H1 e1 => ?_
    refine s_if (b := false) (t_lo rfl) (fun h => by cases h) fun _ H2 e2 => ?_
    have e02 := e1.trans e2
    have full2 := fun (h : st.met.length = 20000) => (F.ex e02).full (by exact fun h => nomatch h) h
    have word2 : ED K (tVar 3) [some (.ref a), some x, some (.ref pb), some (.str (hdN (.lf xx))), none, none, none] H2 (.str (hdN (.lf xx))) := word rfl
    by_cases htab : ∃ t cc, tabOf xx = some (t, cc)
    · obtain ⟨t, cc, htab⟩ := htab
      obtain ⟨ht4, hc32⟩ := tabOf_ok htab hk
      have htt : tabH (.lf xx) = true := by cases xx <;> first | rfl | cases htab
      refine s_if (b := true) (et_is (et_tabs T word2) htt) (fun _ H3 e3 => ?_) fun h => by cases h
      have e03 := e02.trans e3
      refine qd_sq ?_
      refine q_meet (K := K) (i := 0) (s := st) (path := B ++ [k]) (more := 0) (fun h H' f => full2 h H' fun b o hb n => f b o (e3 b o hb) n) hle (G.ex e03) rfl (ed_var (i := 2) rfl (hpb.ex e03).dp) ed_int fun hlt v4 H4 G4 x4 => ?_
      have x04 := (Nx.ex e03).trans x4
      have h14 := h1.tx (x04.tx G) (tdat_hd _)
      refine LW.m_go (K := K) (i := 0) (n := 3) (R := R_touch) (ds := [.tuple (lfD xx), .list (st.boxes.map PyData.int), .int (st.beats + 0)]) G4 rfl (eda_cons (ed_var (i := 1) rfl h14) (eda_cons (f_boxesD (s := metS st (B ++ [k]) 0) (i := 0) G4 c rfl) (eda_cons (f_beats (i := 0) G4 c rfl) eda_nil))) ⟨xx, st.boxes, st.beats + 0, t, cc, rfl, htab, by rw [g.n]; exact hc32, Nat.le_trans so.near (by decide), (by show st.touches.length < 100000; have := so.tch; omega), rfl, rfl⟩ fun v5 d5 H5 G5 x5 hv5 => ?_
      have x05 := x04.trans x5
      obtain rfl := dp_bl hv5
      refine qd_addBeats (K := K) (i := 0) (b := LB.farOf m st.near (LB.roomOf t (st.boxes.getD cc 0))) G5 c rfl (ed_if (b := decide (LB.roomOf t (st.boxes.getD cc 0) ∈ st.near)) (et_dB (K := K) (ed_var (i := 5) rfl (.bl _))) (fun hb => ed_is (ed_int (i := 1)) (by unfold LB.farOf; rw [if_pos (of_decide_eq_true hb)])) (fun hb => ed_is (ed_add (ed_int (i := 1)) (f_far (i := 0) G5 c rfl)) (by unfold LB.farOf; rw [if_neg (of_decide_eq_false hb)]))) fun H6 G6 x6 => ?_
      have x06 := x05.trans x6
      refine LW.m_go (K := K) (i := 0) (n := 1) (R := R_do_table) (ds := [.tuple (lfD xx)]) G6 rfl (eda_cons (ed_var (i := 1) rfl (h1.tx (x06.tx G) (tdat_hd _))) eda_nil) ⟨xx, t, cc, rfl, htab, hk, g, rfl, rfl⟩ fun v7 d7 H7 G7 x7 _ => ?_
      refine fin hlt ?_ (Nat.le_succ _) G7 (x06.trans x7)
      cases xx with
      | take b' t' c' =>
        cases htab
        unfold tabled touched metS LB.hdSem LB.leaf LB.S.add LB.S.co
        simp only [LB.toldOf, LB.dursOf, LB.touchesOf, LB.metOf, LB.tchs, List.append_nil, Int.add_zero, Option.toList, List.map_nil, List.nil_append, List.map_cons]
      | put t' c' e' =>
        cases htab
        unfold tabled touched metS LB.hdSem LB.leaf LB.S.add LB.S.co
        simp only [LB.toldOf, LB.dursOf, LB.touchesOf, LB.metOf, LB.tchs, List.append_nil, Int.add_zero, Option.toList, List.map_nil, List.nil_append, List.map_cons]
      | touch t' c' =>
        cases htab
        unfold tabled touched metS LB.hdSem LB.leaf LB.S.add LB.S.co
        simp only [LB.toldOf, LB.dursOf, LB.touchesOf, LB.metOf, LB.tchs, List.append_nil, Int.add_zero, Option.toList, List.map_nil, List.nil_append, List.map_cons]
      | deed _ => cases htab
      | tell _ => cases htab
      | idle _ => cases htab
    · have htt : tabH (.lf xx) = false := by
        cases xx with
        | take b' t' c' => exact (htab ⟨_, _, rfl⟩).elim
        | put b' t' c' => exact (htab ⟨_, _, rfl⟩).elim
        | touch b' t' => exact (htab ⟨_, _, rfl⟩).elim
        | _ => rfl
      refine s_if (b := false) (et_is (et_tabs T word2) htt) (fun h => by cases h) fun _ H3 e3 => ?_
      have e03 := e02.trans e3
      have full3 := fun (h : st.met.length = 20000) => (F.ex e03).full (by exact fun h => nomatch h) h
      have hpb3 := hpb.ex e03
      have h13 := h1.ex e03
      have G3 := G.ex e03
      cases xx with
      | take b' t' c' => exact (htab ⟨_, _, rfl⟩).elim
      | put b' t' c' => exact (htab ⟨_, _, rfl⟩).elim
      | touch b' t' => exact (htab ⟨_, _, rfl⟩).elim
      | tell cc =>
        refine s_if (b := true) (t_eq "tell" rfl rfl) (fun _ H4 e4 => ?_) fun h => by cases h
        refine qd_sq ?_
        refine q_meet (K := K) (i := 0) (s := st) (path := B ++ [k]) (more := 1) (fun h H' f => full3 h H' fun b o hb n => f b o (e4 b o hb) n) hle (G3.ex e4) rfl (ed_var (i := 2) rfl (hpb3.ex e4).dp) ed_int fun hlt v5 H5 G5 x5 => ?_
        have x05 := (Nx.ex (e03.trans e4)).trans x5
        refine sd_append (K := K) (l := d.ls) (xs := st.said.map V.int) (d := .int (st.boxes.getD cc 0)) G5.sd (f_said (i := 0) G5 c rfl) (ed_box (f_boxesD (s := metS st (B ++ [k]) 1) (i := 0) G5 c rfl) (ed_ixT (ed_var (i := 1) rfl (h1.tx (x05.tx G) (tdat_hd _))) (ed_int (i := 1)) rfl) (by show cc < st.boxes.length; rw [g.n]; exact hk)) (by rw [List.length_map]; have := so.said; omega) fun y H6 e6 hy => ?_
        obtain rfl := dp_int hy
        have hmap : st.said.map V.int ++ [V.int (st.boxes.getD cc 0)] = (st.said ++ [st.boxes.getD cc 0]).map V.int := by rw [List.map_append]; rfl
        rw [hmap]
        refine fin hlt ?_ (Nat.le_succ _) ((G5.ex e6).setSd (st.said ++ [st.boxes.getD cc 0])) ((x05.trans (Nx.ex e6)).trans (Nx.upd own_ls))
        unfold metS LB.hdSem LB.leaf LB.S.add LB.S.co
        simp only [LB.toldOf, LB.dursOf, LB.touchesOf, LB.metOf, LB.tchs, List.append_nil, Int.add_zero, Option.toList, List.map_nil, List.nil_append, List.map_cons]
      | idle n =>
        refine s_if (b := false) (t_eq "tell" rfl rfl) (fun h => by cases h) fun _ H4 e4 => ?_
        refine s_if (b := true) (t_eq "idle" rfl rfl) (fun _ H5 e5 => ?_) fun h => by cases h
        refine q_meet (K := K) (i := 0) (s := st) (path := B ++ [k]) (more := (n : Int)) (fun h H' f => full3 h H' fun b o hb nn => f b o ((e4.trans e5) b o hb) nn) hle (G3.ex (e4.trans e5)) rfl (ed_var (i := 2) rfl (hpb3.ex (e4.trans e5)).dp) (ed_ixT (ed_var (i := 1) rfl (h13.ex (e4.trans e5))) (ed_int (i := 1)) rfl) fun hlt v6 H6 G6 x6 => ?_
        refine fin hlt ?_ (Nat.le_succ _) G6 ((Nx.ex (e03.trans (e4.trans e5))).trans x6)
        unfold metS LB.hdSem LB.leaf LB.S.add LB.S.co
        simp only [LB.toldOf, LB.dursOf, LB.touchesOf, LB.metOf, LB.tchs, List.append_nil, Int.add_zero, Option.toList, List.map_nil, List.nil_append, List.map_cons]
      | deed dd =>
        refine s_if (b := false) (t_eq "tell" (by cases dd with | op2 o b c e => cases o <;> rfl | _ => rfl) rfl) (fun h => by cases h) fun _ H4 e4 => ?_
        refine s_if (b := false) (t_eq "idle" (by cases dd with | op2 o b c e => cases o <;> rfl | _ => rfl) rfl) (fun h => by cases h) fun _ H5 e5 => ?_
        have e05 := e03.trans (e4.trans e5)
        have hbox : dd.box < 32 := by cases dd <;> exact hk.1
        refine qd_asg (K := K) (d := .int (LB.deedW xr dd st.boxes)) (ed_call (K := K) (eda_cons (ed_var (i := 1) rfl (h1.ex e05)) (eda_cons (f_boxesD (i := 0) (G.ex e05) c rfl) eda_nil)) ⟨dd, st.boxes, rfl, hk, g.n, g.w, rfl⟩) fun vf H6 e6 hvf => ?_
        obtain rfl := dp_int hvf
        have e06 := e05.trans e6
        refine qd_sq ?_
        refine q_meet (K := K) (i := 0) (s := st) (path := B ++ [k]) (more := 1 + LB.moreW xr bt m dd st.boxes) (fun h H' f => full3 h H' fun b o hb nn => f b o (((e4.trans e5).trans e6) b o hb) nn) hle (G.ex e06) rfl (ed_var (i := 2) rfl (hpb.ex e06).dp) (ed_add (ed_int (i := 1)) (ed_m0 (K := K) (i := 0) (n := 2) (R := R_beats_more) (ds := [.tuple (deedD dd), .int (LB.deedW xr dd st.boxes)]) (G.ex e06) rfl (eda_cons (ed_var (i := 1) rfl (h1.ex e06)) (eda_cons (ed_var (i := 6) rfl (.int _)) eda_nil)) ⟨dd, rfl, hk, g.n, rfl⟩)) fun hlt v7 H7 G7 x7 => ?_
        have x07 := (Nx.ex e06).trans x7
        refine s_setL (l := d.lb) (xs := st.boxes.map V.int) (j := dd.box) (v := .int (LB.deedW xr dd st.boxes)) G7.bx (ev_var rfl) (f_boxes (i := 0) G7 c rfl) (ev_edI (ed_ixT (ed_var (i := 1) rfl (h1.tx (x07.tx G) (tdat_hd _))) (ed_int (i := 1)) (by cases dd <;> rfl))) (by rw [List.length_map, g.n]; exact hbox) fun H8 e8 => ?_
        rw [← List.map_set]
        refine fin hlt ?_ (Nat.le_succ _) ((G7.ex e8).setBx (st.boxes.set dd.box (LB.deedW xr dd st.boxes))) ((x07.trans (Nx.ex e8)).trans (Nx.upd own_lb))
        unfold metS LB.hdSem LB.leaf LB.S.add LB.S.co
        simp only [LB.toldOf, LB.dursOf, LB.touchesOf, LB.metOf, LB.tchs, List.append_nil, Int.add_zero, Option.toList, List.map_nil, List.nil_append, List.map_cons]
end
end LW
namespace LW
open PySem PySem.Spec PyProof.Rows L2 Evl
open LB (Deed Lf P Hd S Mk Co Ev StOk)
/-! ### a class that is made -/
structure Mkr (P : Program) (w : World) (K : PySem.W.Frag) (mg : Str → Option Value) (base : Heap) (k : Nat) (x : Str) (C : Addr) (sp : Sp) : Prop where
  ex : ∃ (CX : CXT) (f : Addr) (fd : FuncData) (ps : List Str), L2.Mk K C f ∧ FnOk P w K mg base CX k f fd ps sp ∧ (CX = CX0 ∨ CX = L2.CX P w) ∧ mg x = some (.ref C) ∧ Binds K fd ps []
structure DfI (K : PySem.W.Frag) (mg : Str → Option Value) (x : Str) (C : Addr) (qual : Str) (st : Stmt) (ps : List Str) : Prop where
  ex : ∃ f fd, Fun K "__init__" qual st f fd ∧ L2.Mk K C f ∧ mg x = some (.ref C) ∧ Binds K fd ps []
section
variable {P : Program} {w : World} {K : PySem.W.Frag} {mg : Str → Option Value} {base : Heap}
theorem DfI.mkr {x : Str} {C : Addr} {qual : Str} {st : Stmt} {ps N : List Str} {k : Nat} {sp : Sp} (D : DfI K mg x C qual st ps) (S : FnScope N ps (defScope st)) (len : ∀ vs H Q E, sp vs H Q E → vs.length = ps.length)
    (hbody : ∀ (f : Addr) (cdv : Value) (A : Around) (outer : List Env) (s : Shared) (H : Hp) (vs : List V) (Q : VK) (E : XK), Room k (A.deeper (envOfC qual (defScope st) s.heap.objs.size f cdv)) → sp vs H Q E →
      ∃ t, PSs (cxOf CX0 P w K mg base N qual (defScope st) f cdv A outer s H E).nox (defBody st) t ∧ t { nx := fun _ H' => Q .non H', rt := Q } (start N vs) H) : Mkr P w K mg base (k + 1) x C sp := by
  obtain ⟨f, fd, F, hm, hg, hb⟩ := D.ex
  exact ⟨CX0, f, fd, ps, hm, F.ok S len (hbody f), .inl rfl, hg, hb⟩
end
section
variable {X : Cx} {k j : Nat} {C : Addr} {x : Str} {sp : Sp} {p pos : Pos} {e : Expr} {es : List Expr} {t : TA}
theorem pe_umk (c : Mkr X.prog X.w X.K X.mg X.base k x C sp) (hr : Room j X.A) (hk : k + 1 ≤ j) (hg : Gl X x) (ha : PA X (e :: es) t)
    (hdb : (x == ("__debug__" : Str)) = false := by decide) (he : starEach (e :: es) X.env = (false, eval e X.env) :: starEach es X.env := by rfl) (hpl : (backTo pos (starEach es X.env)).any (·.1) = false := by rfl) :
    PE X (.Call (.Name x p) (e :: es) [] pos) (tMake C sp [] E0 t) := by
  obtain ⟨CX, f, fd, ps, M, F, hx, hm, b⟩ := c.ex
  rcases hx with rfl | rfl
  · exact pe_make M F (hr.mono hk) hg hm b .nil pass0 ha hdb he hpl
  · exact pe_make M F (hr.mono hk) hg hm b .nil passL ha hdb he hpl
end
/-! ### a new state -/
def Fra (a : Addr) (H H' : Hp) : Prop := ∀ b o, H b = some o → b ≠ a → H' b = some o
theorem Fra.trans {a : Addr} {H H1 H2 : Hp} (x : Fra a H H1) (y : Fra a H1 H2) : Fra a H H2 := fun b o h n => y b o (x b o h n) n
theorem Fra.ex {a : Addr} {H H1 : Hp} (e : Ex H H1) : Fra a H H1 := fun b o h _ => e b o h
theorem Fra.upd {a : Addr} {H : Hp} {o : HO} : Fra a H (L2.upd H a o) := fun b u h n => by
  show L2.upd H a o b = some u
  rw [upd_ne n]
  exact h
section
variable {K : PySem.W.Frag} {σ : L2.St} {H : Hp} {C a dx : Addr} {fs : List (Str × V)} {i : Nat} {te : TE} {tz : TS} {D : Ends} {f : Str} {ds : List PyData}
/-- self.f = a new list -/
theorem q_isetL (h0 : σ[i]? = some (some (.ref a))) (hi : H a = some (.ins C dx fs)) (c : GoC K C) (hn : f ∈ (["nearness", "far", "wrong", "width", "long", "boxes", "tables", "said", "beats", "touches", "nearest", "went", "met"] : List Str)) (hl : fs.length < 1000) (h : EDL K te σ H ds)
    (k : ∀ l xs H1, H l = none → l ≠ a → Fra a H H1 → H1 a = some (.ins C dx (putF f (.ref l) fs)) → H1 l = some (.lst xs) → (∃ H2, DpAll K H2 xs ds) → tz D σ H1) : tSeq (sFld K (tVar i) te f) tz D σ H :=
  h H (Ex.refl H) _ fun l xs H1 hf e1 h1 h2 => ⟨_, h0, a, C, dx, fs, rfl, e1 _ _ hi, c.cls, c.na f hn, hl, by
    have hla : l ≠ a := fun e => by rw [e, hi] at hf; cases hf
    exact k l xs _ hf hla ((Fra.ex e1).trans Fra.upd) upd_same (by rw [upd_ne hla]; exact h1) ⟨H1, h2⟩⟩
theorem q_isetI {n : Int} (h0 : σ[i]? = some (some (.ref a))) (hi : H a = some (.ins C dx fs)) (c : GoC K C) (hn : f ∈ (["nearness", "far", "wrong", "width", "long", "boxes", "tables", "said", "beats", "touches", "nearest", "went", "met"] : List Str)) (hl : fs.length < 1000) (h : ED K te σ H (.int n))
    (k : ∀ H1, Fra a H H1 → H1 a = some (.ins C dx (putF f (.int n) fs)) → tz D σ H1) : tSeq (sFld K (tVar i) te f) tz D σ H :=
  h H (Ex.refl H) _ fun v H1 e1 h1 => ⟨_, h0, a, C, dx, fs, rfl, e1 _ _ hi, c.cls, c.na f hn, hl, by
    obtain rfl := dp_int h1
    exact k _ ((Fra.ex e1).trans Fra.upd) upd_same⟩
theorem q_isetD (h0 : σ[i]? = some (some (.ref a))) (hi : H a = some (.ins C dx fs)) (c : GoC K C) (hn : f ∈ (["nearness", "far", "wrong", "width", "long", "boxes", "tables", "said", "beats", "touches", "nearest", "went", "met"] : List Str)) (hl : fs.length < 1000)
    (k : ∀ l H1, H l = none → l ≠ a → Fra a H H1 → H1 a = some (.ins C dx (putF f (.ref l) fs)) → H1 l = some (.dT []) → tz D σ H1) : tSeq (sFld K (tVar i) tDNewT f) tz D σ H := fun l hf => ⟨_, h0, a, C, dx, fs, rfl, by
    have hla : l ≠ a := fun e => by rw [e, hi] at hf; cases hf
    refine ⟨by rw [upd_ne (Ne.symm hla)]; exact hi, c.cls, c.na f hn, hl, k l _ hf hla ((Fra.ex (Ex.new hf)).trans Fra.upd) upd_same (by rw [upd_ne hla]; exact upd_same)⟩⟩
theorem q_fldV {ta tv : TE} (h : tv σ H fun y H1 => ta σ H1 fun x H2 => ∃ a C dx fs, x = .ref a ∧ H2 a = some (.ins C dx fs) ∧ Cls K C ∧ NoAttr K C f ∧ fs.length < 1000 ∧ tz D σ (upd H2 a (.ins C dx (putF f y fs)))) : tSeq (sFld K ta tv f) tz D σ H := h
/-- one of five written values -/
theorem g_fld {v : V} {Q : L2.St → Hp → Prop} (h0 : σ[i]? = some (some (.ref a))) (hi : H a = some (.ins C dx fs)) (c : GoC K C) (hn : f ∈ (["nearness", "far", "wrong", "width", "long", "boxes", "tables", "said", "beats", "touches", "nearest", "went", "met"] : List Str)) (hl : fs.length < 1000) (k : Q σ (upd H a (.ins C dx (putF f v fs)))) : gFld K (tVar i) f v σ H Q :=
  ⟨_, h0, a, C, dx, fs, rfl, hi, c.cls, c.na f hn, hl, k⟩
end
section
variable {K : PySem.W.Frag} {σ : L2.St} {H : Hp} {ta : TE}
/-- [list(t) for t in ..]: new lists of new lists -/
theorem q_copies {tabs : List (List Int)} {j : Nat} (hj : ∀ v, ((wipe σ [j]).set j (some v))[j]? = some (some v)) (hw : ∀ v, wipe ((wipe σ [j]).set j (some v)) [j] = wipe σ [j]) (ht : ED K ta σ H (.tuple (tabs.map fun t => .tuple (t.map PyData.int)))) (hz : tabs.length < 1000) (Q : VK)
    (k : ∀ p (ts : List Addr) H2, H p = none → Ex H H2 → H2 p = some (.lst (ts.map V.ref)) → ts.length = tabs.length → (∀ (i : Nat) (t : Addr) (tab : List Int), ts[i]? = some t → tabs[i]? = some tab → H2 t = some (.lst (tab.map V.int))) → (∀ t ∈ ts, H t = none ∧ t ≠ p) → ts.Nodup → Q (.ref p) H2) :
    tLc (iTup K ta) (gName j) tYes (tCB (rListS K) (tCons (tVar j) tNil)) [j] σ H Q := ht H (Ex.refl H) _ fun v H1 e1 hv => by
  obtain ⟨a, xs, rfl, hs, hxs⟩ := dp_tup hv
  refine ⟨a, rfl, ⟨xs, hs⟩, fun Dl hD => ?_⟩
  have hxl : xs.length = tabs.length := by rw [dps_len hxs, List.length_map]
  refine ⟨fun i m H3 => m = tabs.length - i ∧ i ≤ tabs.length ∧ Ex H1 H3 ∧ ∃ ts : List Addr, H3 Dl = some (.lst (ts.map V.ref)) ∧ ts.length = i ∧ (∀ (i : Nat) (t : Addr) (tab : List Int), ts[i]? = some t → tabs[i]? = some tab → H3 t = some (.lst (tab.map V.int))) ∧ (∀ t ∈ ts, H1 t = none ∧ t ≠ Dl) ∧ ts.Nodup,
    ⟨tabs.length, by simp, Nat.zero_le _, Ex.new hD, [], upd_same, rfl, (fun _ _ _ h => by simp at h), (fun _ h => nomatch h), List.nodup_nil⟩, ?_⟩
  rintro i m H3 ⟨rfl, hi, e3, ts, hl, htl, hta, htn, htd⟩
  by_cases hlt : i < tabs.length
  · refine .inr ⟨⟨xs, xs[i]'(by omega), ex_t e3 hs, by rw [List.getElem?_eq_getElem]⟩, fun H' => ∃ m', m' < tabs.length - i ∧ (m' = tabs.length - (i + 1) ∧ i + 1 ≤ tabs.length ∧ Ex H1 H' ∧ ∃ ts : List Addr, H' Dl = some (.lst (ts.map V.ref)) ∧ ts.length = i + 1 ∧ (∀ (i : Nat) (t : Addr) (tab : List Int), ts[i]? = some t → tabs[i]? = some tab → H' t = some (.lst (tab.map V.int))) ∧ (∀ t ∈ ts, H1 t = none ∧ t ≠ Dl) ∧ ts.Nodup), fun H' h => h, ?_⟩
    rintro x H4 ⟨rfl, hy⟩
    have hx := hy xs (ex_t e3 hs)
    obtain ⟨d, q1, q2⟩ := dps_at (hxs.ex e3) hx
    rw [List.getElem?_map, List.getElem?_eq_getElem hlt] at q1
    cases q1
    obtain ⟨b, ys, rfl, hb1, hb2⟩ := dp_tup q2
    obtain rfl := dps_ints hb2
    refine ⟨hw _, ?_⟩
    refine (show tCB (rListS K) (tCons (tVar j) tNil) ((wipe σ [j]).set j (some (.ref b))) H4 _ from ⟨_, hj _, b, _, rfl, .inr hb1, fun l hl' => ?_⟩)
    have hDl : Dl ≠ l := ne_of_none hl hl'
    refine ⟨ts.map V.ref, by rw [upd_ne hDl]; exact hl, sz_lt (by rw [List.length_map]; omega), tabs.length - (i + 1), by omega, rfl, hlt, fun c o hc => ?_, ts ++ [l], ?_, by rw [List.length_append, htl]; rfl, fun i' t tab h1 h2 => ?_, fun t ht => ?_, ?_⟩
    · rw [upd_ne (ne_of_none hc hD), upd_ne (ne_of_none (e3 _ _ hc) hl')]
      exact e3 _ _ hc
    · rw [upd_same, List.map_append]
      rfl
    · by_cases hi' : i' < ts.length
      · rw [List.getElem?_append_left hi'] at h1
        have hm := List.mem_of_getElem? h1
        rw [upd_ne (htn t hm).2, upd_ne (ne_of_none (hta i' t tab h1 h2) hl')]
        exact hta i' t tab h1 h2
      · rw [List.getElem?_append_right (by omega)] at h1
        have h0 : i' - ts.length = 0 := by
          rcases Nat.eq_zero_or_pos (i' - ts.length) with h | h
          · exact h
          · rw [List.getElem?_eq_none (by show 1 ≤ _; exact h)] at h1; cases h1
        have hii : i' = i := by omega
        subst hii
        rw [h0] at h1
        cases h1
        rw [List.getElem?_eq_getElem hlt] at h2
        cases h2
        rw [upd_ne (Ne.symm hDl), upd_same]
    · rcases List.mem_append.mp ht with ht | ht
      · exact htn t ht
      · rcases List.mem_singleton.mp ht with rfl
        exact ⟨fresh_back e3 hl', Ne.symm hDl⟩
    · rw [List.nodup_append]
      refine ⟨htd, by simp, fun t ht u hu e => ?_⟩
      rw [List.mem_singleton.mp hu] at e
      obtain ⟨i', hi'⟩ := List.getElem?_of_mem ht
      have hlt' : i' < tabs.length := by have := (List.getElem?_eq_some_iff.mp hi').1; omega
      have := hta i' t _ hi' (List.getElem?_eq_getElem hlt')
      rw [e, hl'] at this
      cases this
  · have e : i = tabs.length := by omega
    refine .inl ⟨⟨xs, ex_t e3 hs, by omega⟩, k Dl ts H3 (fresh_back e1 hD) (e1.trans e3) hl (by omega) hta (fun t ht => ?_) htd⟩
    exact ⟨fresh_back e1 (htn t ht).1, (htn t ht).2⟩
end
section
variable {Pg : Program} {w : World} {K : PySem.W.Frag} {mg : Str → Option Value} {base : Heap} {dF dB aSt aOt aMm C TL : Addr}
abbrev s_Going___init__ : Stmt := inClass (top 51) 0
theorem sc_Going___init__ : FnScope ["self", "make", "world", "table"] ["self", "make", "world"] (defScope s_Going___init__) := ⟨rfl, rfl, rfl, by decide +kernel, rfl, by decide +kernel, by decide +kernel⟩
def spInit (K : PySem.W.Frag) (C : Addr) : Sp := fun vs H Q _ => vs.length = 3 ∧ ∃ a x y dx m bx tabs, vs = [.ref a, x, y] ∧ H a = some (.ins C dx []) ∧ Dp K H x (makeD m) ∧ Dp K H y (worldD bx tabs) ∧ tabs.length < 1000 ∧
  ∀ d H', GoAt K C H' a d m (LB.init (bx, tabs)) 0 → Fra a H H' → (∀ b ∈ d.own a, b = a ∨ H b = none) → Q .non H'
theorem c_Going (D : DfI K mg "Going" C "Going.__init__" s_Going___init__ ["self", "make", "world"]) (T : Txt K mg w dF dB aSt aOt aMm) (c : GoC K C) : Mkr Pg w K mg base 1 "Going" C (spInit K C) := by
  refine D.mkr sc_Going___init__ (fun vs H Q E h => h.1) (fun f cdv A outer s H vs Q E hr h => ?_)
  refine ⟨_, (pss_cons (ps_asg (pv 1) (pg_tup rfl (pgs_cons (pg_fld (pv 0)) (pgs_cons (pg_fld (pv 0)) (pgs_cons (pg_fld (pv 0)) (pgs_cons (pg_fld (pv 0)) (pgs_cons (pg_fld (pv 0)) pgs_nil)))))))
    (pss_cons (ps_fld (pv 0) (pe_callTy call_list_of (by rfl) T.n_list (by decide +kernel) (pa_cons (pe_ix ix_tup (pv 2) pe_int (fun _ _ => rfl)) pa_nil)) rfl)
    (pss_cons (ps_fld (pv 0) (pe_lc (own := [("table", 3)]) (g := (gName 3)) (tt := tYes) (by rfl) sc_Going___init__.nd (pi_tup (pe_ix ix_tup (pv 2) pe_int (fun _ _ => rfl))) (blkOk_by (own := [("table", 3)]) (N := ["self", "make", "world", "table"]) (sc := defScope s_Going___init__) (by decide +kernel)) (fun _ _ _ _ _ => (pg_name (i := 3) sc_Going___init__.nd rfl (Or.inl rfl))) (fun _ _ _ _ _ => pts_nil) (fun _ _ _ _ _ => (pe_callTy (call_listK K) (by rfl) T.n_list (by decide +kernel) (pa_cons (pv 3) pa_nil)))) rfl)
    (pss_cons (ps_fld (pv 0) (pe_lst pa_nil) rfl)
    (pss_cons (ps_fld (pv 0) pe_int rfl)
    (pss_cons (ps_fld (pv 0) (pe_lst pa_nil) rfl)
    (pss_cons (ps_fld (pv 0) (pe_lst pa_nil) rfl)
    (pss_cons (ps_fld (pv 0) pe_dnewT rfl)
    (pss_one (ps_fld (pv 0) (pe_lst pa_nil) rfl))))))))))
    , ?_⟩
  obtain ⟨_, a, x, y, dx, m, bx, tabs, rfl, hi, hx, hy, htl, k⟩ := h
  obtain ⟨p, xs, rfl, hp, hxs⟩ := dp_tup hx
  obtain ⟨v1, v2, v3, v4, v5, rfl, w1, w2, w3, w4, w5⟩ := dps5 hxs
  obtain rfl := dp_int w1
  obtain rfl := dp_int w2
  obtain rfl := dp_int w3
  obtain rfl := dp_int w4
  obtain rfl := dp_int w5
  have tya : ∀ {H' : Hp}, Fra a H H' → Tx H H' := fun fr b zs hb => by
    have hb' : b ≠ a := fun e => by
      subst e
      rcases hb with h | ⟨u, h⟩ <;> rw [hi] at h <;> cases h
    rcases hb with h | ⟨u, h⟩
    · exact .inl (fr b _ h hb')
    · exact .inr ⟨u, fr b _ h hb'⟩
  refine ⟨_, rfl, p, _, rfl, hp, rfl, _, _, rfl, g_fld (K := K) (i := 0) rfl hi c (mem_f 0 rfl) (by show 0 < 1000; decide) ⟨_, _, rfl, g_fld (K := K) (i := 0) rfl upd_same c (mem_f 1 rfl) (by show 1 < 1000; decide) ⟨_, _, rfl, g_fld (K := K) (i := 0) rfl upd_same c (mem_f 2 rfl) (by show 2 < 1000; decide)
    ⟨_, _, rfl, g_fld (K := K) (i := 0) rfl upd_same c (mem_f 3 rfl) (by show 3 < 1000; decide) ⟨_, _, rfl, g_fld (K := K) (i := 0) rfl upd_same c (mem_f 4 rfl) (by show 4 < 1000; decide) ⟨rfl, ?_⟩⟩⟩⟩⟩⟩
  obtain ⟨H5, hH5⟩ : ∃ H5, H5 = upd (upd (upd (upd (upd H a (.ins C dx (putF "nearness" (.int (m.near : Int)) []))) a (.ins C dx (putF "far" (.int (m.far : Int)) (putF "nearness" (.int (m.near : Int)) [])))) a (.ins C dx (putF "wrong" (.int (m.wrong : Int)) (putF "far" (.int (m.far : Int)) (putF "nearness" (.int (m.near : Int)) [])))))
    a (.ins C dx (putF "width" (.int (m.width : Int)) (putF "wrong" (.int (m.wrong : Int)) (putF "far" (.int (m.far : Int)) (putF "nearness" (.int (m.near : Int)) [])))))) a (.ins C dx (putF "long" (.int (m.long : Int)) (putF "width" (.int (m.width : Int)) (putF "wrong" (.int (m.wrong : Int)) (putF "far" (.int (m.far : Int)) (putF "nearness" (.int (m.near : Int)) [])))))) := ⟨_, rfl⟩
  have hi5 : H5 a = some (.ins C dx [("nearness", .int (m.near : Int)), ("far", .int (m.far : Int)), ("wrong", .int (m.wrong : Int)), ("width", .int (m.width : Int)), ("long", .int (m.long : Int))]) := by rw [hH5]; exact upd_same
  have fr5 : Fra a H H5 := by
    rw [hH5]
    exact (((Fra.upd.trans Fra.upd).trans Fra.upd).trans Fra.upd).trans Fra.upd
  rw [← hH5]
  clear hH5
  have hy5 := hy.tx (tya fr5) (tdat_world bx tabs)
  refine q_isetL (K := K) (i := 0) rfl hi5 c (mem_f 5 rfl) (by show 5 < 1000; decide) (edl_copyT (ds := bx.map PyData.int) (ed_ixT (ed_var (i := 2) rfl hy5) ed_int rfl)) fun lb xb H6 fb nb fr6 hi6 hb6 hbx => ?_
  obtain ⟨_, hbx⟩ := hbx
  obtain rfl := dps_ints hbx
  have fr06 := fr5.trans fr6
  have hy6 := hy.tx (tya fr06) (tdat_world bx tabs)
  refine q_fldV ?_
  refine q_copies (K := K) (σ := [some (.ref a), some (.ref p), some y, none]) (tabs := tabs) (j := 3) (fun _ => rfl) (fun _ => rfl) (ed_ixT (ed_var (i := 2) rfl hy6) (ed_int (i := 1)) rfl) htl _ fun lt ts H7 flt e7 hlt7 htsl hta htn htd => ?_
  have nlt : lt ≠ a := fun e => by rw [e, hi6] at flt; cases flt
  refine ⟨_, rfl, a, C, dx, _, rfl, e7 _ _ hi6, c.cls, c.na _ (mem_f 6 rfl), (by show 6 < 1000; decide), ?_⟩
  obtain ⟨H8, hH8⟩ : ∃ H8, H8 = upd H7 a (.ins C dx (putF "tables" (.ref lt) (putF "boxes" (.ref lb) [("nearness", .int (m.near : Int)), ("far", .int (m.far : Int)), ("wrong", .int (m.wrong : Int)), ("width", .int (m.width : Int)), ("long", .int (m.long : Int))]))) := ⟨_, rfl⟩
  have hi8 : H8 a = some (.ins C dx [("nearness", .int (m.near : Int)), ("far", .int (m.far : Int)), ("wrong", .int (m.wrong : Int)), ("width", .int (m.width : Int)), ("long", .int (m.long : Int)), ("boxes", .ref lb), ("tables", .ref lt)]) := by rw [hH8]; exact upd_same
  have fr68 : Fra a H6 H8 := by rw [hH8]; exact (Fra.ex e7).trans Fra.upd
  have hlt8 : H8 lt = some (.lst (ts.map V.ref)) := by rw [hH8, upd_ne nlt]; exact hlt7
  have nts : ∀ t ∈ ts, t ≠ a := fun t ht e => by have := (htn t ht).1; rw [e, hi6] at this; cases this
  have hta8 : ∀ (i : Nat) (t : Addr) (tab : List Int), ts[i]? = some t → tabs[i]? = some tab → H8 t = some (.lst (tab.map V.int)) := fun i t tab h1 h2 => by rw [hH8, upd_ne (nts t (List.mem_of_getElem? h1))]; exact hta i t tab h1 h2
  show tSeq _ _ _ _ _
  rw [← hH8]
  clear hH8
  refine q_isetL (K := K) (i := 0) rfl hi8 c (mem_f 7 rfl) (by show 7 < 1000; decide) (ds := []) (edl_lst eda_nil (Nat.zero_le _)) fun ls xs H9 fs ns fr9 hi9 hs9 hxs9 => ?_
  obtain ⟨_, hxs9⟩ := hxs9
  obtain rfl : xs = [] := by cases hxs9; rfl
  refine q_isetI (K := K) (i := 0) (n := 0) rfl hi9 c (mem_f 8 rfl) (by show 8 < 1000; decide) ed_int fun H10 fr10 hi10 => ?_
  refine q_isetL (K := K) (i := 0) rfl hi10 c (mem_f 9 rfl) (by show 9 < 1000; decide) (ds := []) (edl_lst eda_nil (Nat.zero_le _)) fun lo xo H11 fo no fr11 hi11 ho11 hxo => ?_
  obtain ⟨_, hxo⟩ := hxo
  obtain rfl : xo = [] := by cases hxo; rfl
  refine q_isetL (K := K) (i := 0) rfl hi11 c (mem_f 10 rfl) (by show 10 < 1000; decide) (ds := []) (edl_lst eda_nil (Nat.zero_le _)) fun ln xn H12 fn nn fr12 hi12 hn12 hxn => ?_
  obtain ⟨_, hxn⟩ := hxn
  obtain rfl : xn = [] := by cases hxn; rfl
  refine q_isetD (K := K) (i := 0) rfl hi12 c (mem_f 11 rfl) (by show 11 < 1000; decide) fun lw H13 fw nw fr13 hi13 hw13 => ?_
  refine edl_lst (K := K) eda_nil (Nat.zero_le _) H13 (Ex.refl H13) _ fun lm xm H14 fm e14 hm14 hxm => ?_
  obtain rfl : xm = [] := by cases hxm; rfl
  have nm : lm ≠ a := fun e => by rw [e, hi13] at fm; cases fm
  refine ⟨_, rfl, a, C, dx, _, rfl, e14 _ _ hi13, c.cls, c.na _ (mem_f 12 rfl), (by show 12 < 1000; decide), ?_⟩
  have fr15 : Fra a H13 (upd H14 a (.ins C dx (putF "met" (.ref lm) (putF "went" (.ref lw) (putF "nearest" (.ref ln) (putF "touches" (.ref lo) (putF "beats" (.int 0) (putF "said" (.ref ls) [("nearness", .int (m.near : Int)), ("far", .int (m.far : Int)), ("wrong", .int (m.wrong : Int)), ("width", .int (m.width : Int)), ("long", .int (m.long : Int)), ("boxes", .ref lb), ("tables", .ref lt)])))))))) := (Fra.ex e14).trans Fra.upd
  obtain ⟨Hf, hHf⟩ : ∃ Hf, Hf = upd H14 a (.ins C dx (putF "met" (.ref lm) (putF "went" (.ref lw) (putF "nearest" (.ref ln) (putF "touches" (.ref lo) (putF "beats" (.int 0) (putF "said" (.ref ls) [("nearness", .int (m.near : Int)), ("far", .int (m.far : Int)), ("wrong", .int (m.wrong : Int)), ("width", .int (m.width : Int)), ("long", .int (m.long : Int)), ("boxes", .ref lb), ("tables", .ref lt)]))))))) := ⟨_, rfl⟩
  rw [← hHf] at fr15
  have hif : Hf a = some (.ins C dx (goF m 0 ⟨dx, lb, lt, ls, lo, ln, lw, lm, ts⟩)) := by rw [hHf]; exact upd_same
  have hmf : Hf lm = some (.lst []) := by rw [hHf, upd_ne nm]; exact hm14
  suffices hs : Q .non Hf by
    rw [hHf] at hs
    exact hs
  clear hHf
  have b8 := fr68 _ _ hb6 nb
  have b9 := fr9 _ _ b8 nb
  have b10 := fr10 _ _ b9 nb
  have b11 := fr11 _ _ b10 nb
  have b12 := fr12 _ _ b11 nb
  have b13 := fr13 _ _ b12 nb
  have t9 := fr9 _ _ hlt8 nlt
  have t10 := fr10 _ _ t9 nlt
  have t11 := fr11 _ _ t10 nlt
  have t12 := fr12 _ _ t11 nlt
  have t13 := fr13 _ _ t12 nlt
  have s10 := fr10 _ _ hs9 ns
  have s11 := fr11 _ _ s10 ns
  have s12 := fr12 _ _ s11 ns
  have s13 := fr13 _ _ s12 ns
  have o12 := fr12 _ _ ho11 no
  have o13 := fr13 _ _ o12 no
  have n13 := fr13 _ _ hn12 nn
  have x8 : ∀ t ∈ ts, ∃ o, H8 t = some o ∧ H10 t = some o ∧ H11 t = some o ∧ H12 t = some o ∧ H13 t = some o ∧ Hf t = some o := fun t ht => by
    obtain ⟨i, hi'⟩ := List.getElem?_of_mem ht
    have hl : i < tabs.length := by have := (List.getElem?_eq_some_iff.mp hi').1; omega
    have n := nts t ht
    have q8 := hta8 i t _ hi' (List.getElem?_eq_getElem hl)
    have q9 := fr9 _ _ q8 n
    have q10 := fr10 _ _ q9 n
    have q11 := fr11 _ _ q10 n
    have q12 := fr12 _ _ q11 n
    have q13 := fr13 _ _ q12 n
    exact ⟨_, q8, q10, q11, q12, q13, fr15 _ _ q13 n⟩
  have nod : ((⟨dx, lb, lt, ls, lo, ln, lw, lm, ts⟩ : Ad).own a).Nodup := by
    unfold Ad.own
    simp only [List.nodup_cons, List.mem_cons, not_or]
    refine ⟨⟨Ne.symm nb, Ne.symm nlt, Ne.symm ns, Ne.symm no, Ne.symm nn, Ne.symm nw, Ne.symm nm, fun h => nts a h rfl⟩, ⟨ne_of_none hb6 flt, ne_of_none b8 fs, ne_of_none b10 fo, ne_of_none b11 fn, ne_of_none b12 fw, ne_of_none b13 fm, fun h => ne_of_none hb6 (htn lb h).1 rfl⟩, ⟨ne_of_none hlt8 fs, ne_of_none t10 fo, ne_of_none t11 fn, ne_of_none t12 fw, ne_of_none t13 fm, fun h => (htn lt h).2 rfl⟩,
      ⟨ne_of_none s10 fo, ne_of_none s11 fn, ne_of_none s12 fw, ne_of_none s13 fm, fun h => by obtain ⟨o, q, _⟩ := x8 ls h; rw [fs] at q; cases q⟩, ⟨ne_of_none ho11 fn, ne_of_none o12 fw, ne_of_none o13 fm, fun h => by obtain ⟨o, _, q, _⟩ := x8 lo h; rw [fo] at q; cases q⟩, ⟨ne_of_none hn12 fw, ne_of_none n13 fm, fun h => by obtain ⟨o, _, _, q, _⟩ := x8 ln h; rw [fn] at q; cases q⟩,
      ⟨ne_of_none hw13 fm, fun h => by obtain ⟨o, _, _, _, q, _⟩ := x8 lw h; rw [fw] at q; cases q⟩, (fun h => by obtain ⟨o, _, _, _, _, q, _⟩ := x8 lm h; rw [fm] at q; cases q), htd⟩
  have fr0 : Fra a H Hf := fr06.trans (fr68.trans (fr9.trans (fr10.trans (fr11.trans (fr12.trans (fr13.trans fr15))))))
  refine k ⟨dx, lb, lt, ls, lo, ln, lw, lm, ts⟩ Hf ⟨hif, fr15 _ _ b13 nb, fr15 _ _ t13 nlt, htsl, fun i t tab h1 h2 => ?_, fr15 _ _ s13 ns, ⟨[], fr15 _ _ o13 no, .nil⟩, ⟨[], fr15 _ _ n13 nn, .nil⟩, ⟨[], fr15 _ _ hw13 nw, Nat.le_refl _, fun p => rfl⟩, ⟨[], hmf, .nil⟩, nod⟩ fr0 ?_
  · have n := nts t (List.mem_of_getElem? h1)
    exact fr15 _ _ (fr13 _ _ (fr12 _ _ (fr11 _ _ (fr10 _ _ (fr9 _ _ (hta8 i t tab h1 h2) n) n) n) n) n) n
  · have old : ∀ {H1 : Hp} {b : Addr}, Fra a H H1 → H1 b = none → b ≠ a → H b = none := fun {H1 b} fr h n => by
      cases e : H b with
      | none => rfl
      | some o => rw [fr b o e n] at h; cases h
    intro b hb
    have f08 := fr06.trans fr68
    have f10 := f08.trans (fr9.trans fr10)
    have f11 := f10.trans fr11
    have f12 := f11.trans fr12
    have f13 := f12.trans fr13
    unfold Ad.own at hb
    simp only [List.mem_cons] at hb
    rcases hb with rfl | rfl | rfl | rfl | rfl | rfl | rfl | rfl | hb
    · exact .inl rfl
    · exact .inr (old fr5 fb nb)
    · exact .inr (old fr06 flt nlt)
    · exact .inr (old f08 fs ns)
    · exact .inr (old f10 fo no)
    · exact .inr (old f11 fn nn)
    · exact .inr (old f12 fw nw)
    · exact .inr (old f13 fm nm)
    · exact .inr (old fr06 (htn b hb).1 (nts b hb))
end
end LW
namespace LW
open PySem PySem.Spec PyProof.Rows L2 Evl
open LB (Deed Lf P Hd S Mk Co Ev StOk)
abbrev W2 := List Int × List (List Int)
abbrev wD (w : W2) : PyData := worldD w.1 w.2
abbrev runX (m : Mk) (p : P) (w : W2) : S := LB.runS xr bt m p w
structure RunOk (p : P) (m : Mk) (w : W2) : Prop where
  ok : p.ok 8
  size : p.size ≤ 400
  mkk : MkOk m
  good : LB.Good w.1 w.2
/-- how many events -/
def many (m : Mk) (p : P) (w : W2) : Nat := (LB.runQ xr bt m p w).2.length
def seenD (s : S) : PyData := .tuple [.int s.beats, .tuple (s.touches.map tchD)]
def resD (s : S) : PyData := .tuple [.tuple (s.said.map PyData.int), worldD s.boxes s.tabs, seenD s]
theorem qd_make {K : PySem.W.Frag} {σ : L2.St} {H : Hp} {C : Addr} {sp : Sp} {tr : TA} {ds : List PyData} {tz : TS} {D : Ends} {i : Nat} (h : EDA K tr σ H ds)
    (k : ∀ vs x dx H1, Ex H H1 → DpAll K H1 vs ds → H1 x = none → H1 dx = none → dx ≠ x → sp (.ref x :: (vs ++ [])) (upd (upd H1 dx (.own x)) x (.ins C dx [])) (fun v H2 => v = .non ∧ tz D (σ.set i (some (.ref x))) H2) E0) : tSeq (tAsg (tMake C sp [] E0 tr) (gName i)) tz D σ H :=
  h H (Ex.refl H) _ fun vs H1 e1 hvs x dx hx hdx hne => k vs x dx H1 e1 hvs hx hdx hne
section
variable {Pg : Program} {w : World} {K : PySem.W.Frag} {mg : Str → Option Value} {base : Heap} {dF dB aSt aOt aMm C TL : Addr}
theorem m_go_all (Dg : DfM K C "go" "Going.go" s_Going_go ["self", "steps", "ahead"]) (Dd : DfM K C "do" "Going.do" s_Going_do ["self", "step", "path"]) (Di : DfM K C "do_if" "Going.do_if" s_Going_do_if ["self", "step", "path"]) (T : Txt K mg w dF dB aSt aOt aMm) (c : GoC K C)
    (m_meet : MtX Pg w K mg base 1 C "meet" (spMeet K C TL)) (m_touch : Mt Pg w K mg base 2 C "touch" (spM K C 3 R_touch)) (m_do_table : Mt Pg w K mg base 2 C "do_table" (spM K C 1 R_do_table)) (m_beats_more : Mt Pg w K mg base 1 C "beats_more" (spM0 K C 2 R_beats_more))
    (m_begin : Mt Pg w K mg base 4 C "begin" (spM K C 2 R_begin)) (c_deed_told : Cl Pg w K mg base 3 "deed_told" (spD K 2 R_deed_told)) : ∀ dp : Nat, MtX Pg w K mg base (3 + 3 * (dp + 1)) C "go" (spGo K C TL dp)
  | 0 => m_go' (dp := 0) Dg T (Dd.mtx (k := 4) sc_Going_do (fun vs H Q E h => h.1) fun f cdv A outer s H vs Q E hr h => by
      obtain ⟨_, a, x, pb, d, m, st, hh, B, k, _, _, _, _, _, h1, _⟩ := h
      omega)
  | dp + 1 => by
    have ih := m_go_all Dg Dd Di T c m_meet m_touch m_do_table m_beats_more m_begin c_deed_told dp
    have hi := m_do_if' (TL := TL) (dp := dp) Di T c m_meet m_begin ih
    have hd := m_do' (dp := dp) Dd T c m_meet m_touch m_do_table m_beats_more c_deed_told ih hi
    rw [show 4 + 3 * (dp + 1) + 1 = 5 + 3 * (dp + 1) by omega] at hd
    have hg := m_go' Dg T hd
    rw [show 5 + 3 * (dp + 1) + 1 = 3 + 3 * (dp + 1 + 1) by omega] at hg
    exact hg
abbrev s_need_run : Stmt := top 53
theorem sc_need_run : FnScope ["program", "make", "world"] ["program", "make", "world"] (defScope s_need_run) := ⟨rfl, rfl, rfl, by decide +kernel, rfl, by decide +kernel, by decide +kernel⟩
def R_need_run (ds : List PyData) (d : PyData) : Prop := ∃ (p : P) (m : Mk) (v : W2), ds = [.tuple (progD p), makeD m, wD v] ∧ RunOk p m v ∧ d = .none
theorem c_need_run (D : Df K mg "need_run" s_need_run ["program", "make", "world"]) (T : Txt K mg w dF dB aSt aOt aMm) (c_need_program : Cl Pg w K mg base 4 "need_program" (spD K 1 R_need_program)) (c_need_make : Cl Pg w K mg base 3 "need_make" (spD K 1 R_need_make)) (c_need_world : Cl Pg w K mg base 5 "need_world" (spD K 1 R_need_world)) :
    Cl Pg w K mg base 6 "need_run" (spD K 3 R_need_run) := by
  refine D.cl sc_need_run (fun vs H Q E h => h.1) (fun f cdv A outer s H vs Q E hr h => ?_)
  refine ⟨_, (pss_cons (ps_expr (pe_u c_need_program hr (by omega) rfl (pa_cons (pv 0) pa_nil)))
    (pss_cons (ps_expr (pe_u c_need_make hr (by omega) rfl (pa_cons (pv 1) pa_nil)))
    (pss_one (ps_expr (pe_u c_need_world hr (by omega) rfl (pa_cons (pv 2) pa_nil))))))
    , ?_⟩
  obtain ⟨_, ds, d, hds, ⟨p, m, v, rfl, R, rfl⟩, k⟩ := h
  obtain ⟨x, y, z, rfl, h1, h2, h3⟩ := dps3 hds
  refine qd_drop (ed_call (K := K) (eda_cons (ed_var rfl h1) eda_nil) ⟨p, rfl, R.ok, R.size, rfl⟩) fun H1 e1 => ?_
  refine qd_drop (ed_call (K := K) (eda_cons (ed_var rfl (h2.ex e1)) eda_nil) ⟨m, rfl, R.mkk, rfl⟩) fun H2 e2 => ?_
  exact sd_drop (ed_call (K := K) (eda_cons (ed_var rfl (h3.ex (e1.trans e2))) eda_nil) ⟨v.1, v.2, rfl, R.good, rfl⟩) fun H3 e3 => k _ _ ((e1.trans e2).trans e3) .non
abbrev s_gone : Stmt := top 52
theorem sc_gone : FnScope ["program", "make", "world", "going"] ["program", "make", "world"] (defScope s_gone) := ⟨rfl, rfl, rfl, by decide +kernel, rfl, by decide +kernel, by decide +kernel⟩
def spGone (K : PySem.W.Frag) (C TL : Addr) : Sp := fun vs H Q E => vs.length = 3 ∧ ∃ p m v, DpAll K H vs [.tuple (progD p), makeD m, wD v] ∧ RunOk p m v ∧ (many m p v ≤ 20000 → ∀ a d H', Ex H H' → GoAt K C H' a d m (runX m p v) (runX m p v).met.length → (∀ b ∈ d.own a, H b = none) → Q (.ref a) H') ∧
  (20000 < many m p v → ∀ H', Ex H H' → E (.ref TL) none H')
theorem stOk_init {v : W2} (g : LB.Good v.1 v.2) : StOk (LB.init v) := ⟨g, Nat.zero_le _, Nat.zero_le _, Nat.zero_le _⟩
theorem c_gone (D : Df K mg "gone" s_gone ["program", "make", "world"]) (T : Txt K mg w dF dB aSt aOt aMm) (c : GoC K C) (c_Going : Mkr Pg w K mg base 1 "Going" C (spInit K C)) (m_go : MtX Pg w K mg base 30 C "go" (spGo K C TL 8)) : ClX Pg w K mg base 31 "gone" (spGone K C TL) := by
  refine D.clx sc_gone (fun vs H Q E h => h.1) (fun f cdv A outer s H vs Q E hr h => ?_)
  have tkx := takes_of (X := cxOf (L2.CX Pg w) Pg w K mg base ["program", "make", "world", "going"] "gone" (defScope s_gone) f cdv A outer s H E) rfl rfl rfl rfl
  refine ⟨_, (pss_cons (ps_set (i := 3) sc_gone.nd rfl (Or.inl rfl) (pe_umk c_Going hr (by omega) rfl (pa_cons (pv 1) (pa_cons (pv 2) pa_nil))))
    (pss_cons (ps_expr (pe_mx m_go hr (by omega) (pv 3) tkx (fun _ _ _ _ h => h) (pa_cons (pv 0) (pa_cons (pe_tup pa_nil) pa_nil))))
    (pss_one (ps_ret (pv 3)))))
    , ?_⟩
  obtain ⟨_, p, m, v, hds, R, k, kx⟩ := h
  obtain ⟨x, y, z, rfl, h1, h2, h3⟩ := dps3 hds
  refine qd_make (K := K) (eda_cons (ed_var (i := 1) rfl h2) (eda_cons (ed_var (i := 2) rfl h3) eda_nil)) fun vs1 a dx H1 e1 hvs1 ha hdx hne => ?_
  obtain ⟨y1, z1, rfl, q1, q2⟩ := dps2 hvs1
  have e2 : Ex H1 (upd (upd H1 dx (.own a)) a (.ins C dx [])) := (Ex.new hdx).trans (Ex.new (by rw [upd_ne (Ne.symm hne)]; exact ha))
  refine ⟨rfl, a, y1, z1, dx, m, v.1, v.2, rfl, upd_same, q1.ex e2, q2.ex e2, by rw [R.good.tn]; decide, fun d H3 G3 fr ow => ⟨rfl, ?_⟩⟩
  have e03 : Ex H H3 := fun b o hb => by
    have hb1 := e1 _ _ hb
    exact fr b o (e2 _ _ hb1) (ne_of_none hb1 ha)
  have own0 : ∀ b ∈ d.own a, H b = none := fun b hb => by
    rcases ow b hb with rfl | h
    · exact fresh_back e1 ha
    · exact fresh_back (e1.trans e2) h
  refine qd_sq ?_
  have hq : ∀ H', Fr (d.own a) H3 H' → Ex H H' := fun H' f b o hb => f b o (e03 b o hb) fun hm => by rw [own0 b hm] at hb; cases hb
  refine q_go (K := K) (i := 3) (dp := 8) (p := p) (A := []) (s := LB.init v) ⟨fun hl d' H' G' x' => ?_, fun hl H' f => kx ?_ H' (hq H' f)⟩ G3 rfl (ed_var (i := 0) rfl (h1.ex e03)) (ed_tup eda_nil (Nat.zero_le _)) R.ok R.size (by decide) (stOk_init R.good) R.mkk (Nat.zero_le _)
  · obtain ⟨e0', ow'⟩ := x'.keepEx e03 own0
    refine ⟨_, rfl, k ?_ a d' H' e0' G' ow'⟩
    have hl' : 0 + (LB.runQ xr bt m p v).2.length ≤ 20000 := hl
    show (LB.runQ xr bt m p v).2.length ≤ 20000
    omega
  · have hl' : 20000 < 0 + (LB.runQ xr bt m p v).2.length := hl
    show 20000 < (LB.runQ xr bt m p v).2.length
    omega
abbrev s_Going_outcome : Stmt := inClass (top 51) 10
theorem sc_Going_outcome : FnScope ["self", "world", "table"] ["self"] (defScope s_Going_outcome) := ⟨rfl, rfl, rfl, by decide +kernel, rfl, by decide +kernel, by decide +kernel⟩
def R_outcome (m : Mk) (s : S) (ds : List PyData) (r : PyData) : Prop := ds = [] ∧ s.tabs.length < 1000 ∧ r = resD s
def listsD (tabs : List (List Int)) : List PyData := tabs.map fun t => .list (t.map PyData.int)
theorem tabsD {H : Hp} : ∀ {ts : List Addr} {tabs : List (List Int)}, ts.length = tabs.length → (∀ (i : Nat) (t : Addr) (tab : List Int), ts[i]? = some t → tabs[i]? = some tab → H t = some (.lst (tab.map V.int))) → DpAll K H (ts.map V.ref) (listsD tabs)
  | [], [], _, _ => .nil
  | [], _ :: _, h, _ => by simp at h
  | _ :: _, [], h, _ => by simp at h
  | t :: ts, tab :: tabs, h, f => .cons (.lst (sq_of (f 0 t tab rfl rfl)) (ints_dps tab)) (tabsD (by simpa using h) fun i t' tab' h1 h2 => f (i + 1) t' tab' (by simpa using h1) (by simpa using h2))
def tupOf : PyData → PyData
  | .list ds => .tuple ds
  | d => d
theorem m_outcome (D : DfM K C "outcome" "Going.outcome" s_Going_outcome ["self"]) (T : Txt K mg w dF dB aSt aOt aMm) (c : GoC K C) : Mt Pg w K mg base 1 C "outcome" (spM0 K C 0 R_outcome) := by
  refine D.mt sc_Going_outcome (fun vs H Q E h => h.1) (fun f cdv A outer s H vs Q E hr h => ?_)
  refine ⟨_, (pss_cons (ps_set (i := 1) sc_Going_outcome.nd rfl (Or.inl rfl) (pe_tup (pa_cons (pe_tupleOf rfl T.n_tuple (pe_fld (pv 0) rfl)) (pa_cons (pe_tupleOf rfl T.n_tuple (pe_lc (own := [("table", 2)]) (g := (gName 2)) (tt := tYes) (by rfl) sc_Going_outcome.nd (pi_list (pe_fld (pv 0) rfl)) (blkOk_by (own := [("table", 2)]) (N := ["self", "world", "table"]) (sc := defScope s_Going_outcome) (by decide +kernel)) (fun _ _ _ _ _ => (pg_name (i := 2) sc_Going_outcome.nd rfl (Or.inl rfl))) (fun _ _ _ _ _ => pts_nil) (fun _ _ _ _ _ => (pe_tupleOfK K rfl T.n_tuple (pv 2))))) pa_nil))))
    (pss_one (ps_ret (pe_tup (pa_cons (pe_tupleOf rfl T.n_tuple (pe_fld (pv 0) rfl)) (pa_cons (pv 1) (pa_cons (pe_tup (pa_cons (pe_fld (pv 0) rfl) (pa_cons (pe_tupleOf rfl T.n_tuple (pe_fld (pv 0) rfl)) pa_nil))) pa_nil)))))))
    , ?_⟩
  obtain ⟨_, a, ws, d, m, st, z, ds, r, rfl, G, hds, ⟨rfl, hsd, rfl⟩, k⟩ := h
  obtain rfl : ws = [] := by cases hds; rfl
  have hT : ∀ {σ : L2.St} {H1 : Hp}, GoAt K C H1 a d m st z → σ[0]? = some (some (.ref a)) → ED K (tFld K (tVar 0) "tables") σ H1 (.list (listsD st.tabs)) := fun G1 h0 => ed_ev (f_tables G1 c h0) (.lst (sq_of G1.tb) (tabsD G1.tn G1.ta))
  have hlc := edl_lc (K := K) (g := gName 2) (tt := tYes) (vs := [2]) (te := tThen (tVar 2) (kTup K)) (fun _ => true) tupOf (it_lst (σ := start ["self", "world", "table"] [.ref a]) (hT G rfl)) (by
      unfold listsD
      rw [List.length_map]
      omega) (fun d hd _ => by
      unfold listsD at hd
      obtain ⟨t, _, rfl⟩ := List.mem_map.mp hd
      exact tdat_tup (tdats_ints t)) (fun i d v H3 e3 hi hd => by
      have hm := List.mem_of_getElem? hi
      unfold listsD at hm
      obtain ⟨t, _, rfl⟩ := List.mem_map.mp hm
      exact ⟨_, tk_one _, rfl, et_yes, fun _ => ed_tupOfL (ed_var (i := 2) rfl hd)⟩)
  rw [List.filter_eq_self.mpr (fun _ _ => rfl)] at hlc
  unfold listsD at hlc
  rw [List.map_map] at hlc
  refine qd_asg (K := K) (d := worldD st.boxes st.tabs) (ed_tup (eda_cons (ed_tupOfL (f_boxesD (i := 0) G c rfl)) (eda_cons (ed_tupOf hlc) eda_nil)) (Nat.le_of_ble_eq_true rfl)) fun v H1 e1 hv => ?_
  have G1 := G.ex e1
  obtain ⟨xo, ho1, ho2⟩ := G1.to
  exact sd_ret (K := K) (d := resD st) (ed_tup (eda_cons (ed_tupOfL (ed_selfL (f_said (i := 0) G1 c rfl) G1.sd)) (eda_cons (ed_var (i := 1) rfl hv) (eda_cons (ed_tup (eda_cons (f_beats (i := 0) G1 c rfl) (eda_cons (ed_tupOfL (ed_ev (f_touches (i := 0) G1 c rfl) (.lst (sq_of ho1) ho2))) eda_nil)) (Nat.le_of_ble_eq_true rfl)) eda_nil))) (Nat.le_of_ble_eq_true rfl)) fun v2 H2 e2 hv2 => k v2 H2 (e1.trans e2) hv2
theorem q_gone {σ : L2.St} {H : Hp} {tr : TA} {p : P} {m : Mk} {v : W2} {Q : VK} {E : XK} (h : EDA K tr σ H [.tuple (progD p), makeD m, wD v]) (R : RunOk p m v) (k : many m p v ≤ 20000 → ∀ a d H', Ex H H' → GoAt K C H' a d m (runX m p v) (runX m p v).met.length → (∀ b ∈ d.own a, H b = none) → Q (.ref a) H')
    (kx : 20000 < many m p v → ∀ H', Ex H H' → E (.ref TL) none H') : tCall (spGone K C TL) [] E tr σ H Q := h H (Ex.refl H) _ fun vs H1 e1 hvs =>
  ⟨by rw [List.append_nil, dps_len hvs]; rfl, p, m, v, by rw [List.append_nil]; exact hvs, R, fun hl a d H' e' G ow => k hl a d H' (e1.trans e') G fun b hb => fresh_back e1 (ow b hb), fun hl H' e' => kx hl H' (e1.trans e')⟩
theorem run_good {p : P} {m : Mk} {v : W2} (R : RunOk p m v) : LB.Good (runX m p v).boxes (runX m p v).tabs := LB.sem_good ops m p R.ok [] 0 (LB.start0 v) R.good
abbrev s_run : Stmt := top 54
theorem sc_run : FnScope ["program", "make", "world"] ["program", "make", "world"] (defScope s_run) := ⟨rfl, rfl, rfl, by decide +kernel, rfl, by decide +kernel, by decide +kernel⟩
def spRunX (K : PySem.W.Frag) (TL : Addr) : Sp := fun vs H Q E => vs.length = 3 ∧ ∃ p m v, DpAll K H vs [.tuple (progD p), makeD m, wD v] ∧ RunOk p m v ∧ (many m p v ≤ 20000 → ∀ x H', Ex H H' → Dp K H' x (resD (runX m p v)) → Q x H') ∧ (20000 < many m p v → ∀ H', Ex H H' → E (.ref TL) none H')
theorem c_runX (D : Df K mg "run" s_run ["program", "make", "world"]) (T : Txt K mg w dF dB aSt aOt aMm) (c_need_run : Cl Pg w K mg base 6 "need_run" (spD K 3 R_need_run)) (c_gone : ClX Pg w K mg base 31 "gone" (spGone K C TL)) (m_outcome : Mt Pg w K mg base 1 C "outcome" (spM0 K C 0 R_outcome)) : ClX Pg w K mg base 32 "run" (spRunX K TL) := by
  refine D.clx sc_run (fun vs H Q E h => h.1) (fun f cdv A outer s H vs Q E hr h => ?_)
  have tkx := takes_of (X := cxOf (L2.CX Pg w) Pg w K mg base ["program", "make", "world"] "run" (defScope s_run) f cdv A outer s H E) rfl rfl rfl rfl
  refine ⟨_, (pss_cons (ps_expr (pe_u c_need_run hr (by omega) rfl (pa_cons (pv 0) (pa_cons (pv 1) (pa_cons (pv 2) pa_nil)))))
    (pss_one (ps_ret (pe_m0 m_outcome hr (by omega) (pe_ux c_gone hr (by omega) rfl tkx (fun _ _ _ _ h => h) (pa_cons (pv 0) (pa_cons (pv 1) (pa_cons (pv 2) pa_nil))))))))
    , ?_⟩
  obtain ⟨_, p, m, v, hds, R, k, kx⟩ := h
  obtain ⟨x, y, z, rfl, h1, h2, h3⟩ := dps3 hds
  refine qd_drop (ed_call (K := K) (eda_cons (ed_var rfl h1) (eda_cons (ed_var rfl h2) (eda_cons (ed_var rfl h3) eda_nil))) ⟨p, m, v, rfl, R, rfl⟩) fun H1 e1 => ?_
  refine q_gone (K := K) (C := C) (TL := TL) (eda_cons (ed_var (i := 0) rfl (h1.ex e1)) (eda_cons (ed_var (i := 1) rfl (h2.ex e1)) (eda_cons (ed_var (i := 2) rfl (h3.ex e1)) eda_nil))) R (fun hl a d H2 e2 G ow => ?_) fun hl H2 e2 => kx hl H2 (e1.trans e2)
  exact ⟨a, d.dx, _, rfl, G.ins, rfl, rfl, a, [], d, m, _, _, [], _, rfl, G, .nil, ⟨rfl, by rw [(run_good R).tn]; decide, rfl⟩, fun v3 H3 e3 hv3 => k hl v3 H3 ((e1.trans e2).trans e3) hv3⟩
def R_run (ds : List PyData) (d : PyData) : Prop := ∃ (p : P) (m : Mk) (v : W2), ds = [.tuple (progD p), makeD m, wD v] ∧ RunOk p m v ∧ many m p v ≤ 20000 ∧ d = resD (runX m p v)
theorem c_run (h : ClX Pg w K mg base 32 "run" (spRunX K TL)) : Cl Pg w K mg base 32 "run" (spD K 3 R_run) := h.cl.imp fun vs H Q E q => by
  obtain ⟨hl, ds, d, hds, ⟨p, m, v, rfl, R, hm, rfl⟩, k⟩ := q
  exact ⟨hl, p, m, v, hds, R, fun _ x H' e hx => k x H' e hx, fun h => by omega⟩
abbrev s_events : Stmt := top 55
theorem sc_events : FnScope ["program", "make", "world"] ["program", "make", "world"] (defScope s_events) := ⟨rfl, rfl, rfl, by decide +kernel, rfl, by decide +kernel, by decide +kernel⟩
def spEvX (K : PySem.W.Frag) (TL : Addr) : Sp := fun vs H Q E => vs.length = 3 ∧ ∃ p m v, DpAll K H vs [.tuple (progD p), makeD m, wD v] ∧ RunOk p m v ∧ (many m p v ≤ 20000 → ∀ q xs H', H q = none → Ex H H' → H' q = some (.lst xs) → DpAll K H' xs ((runX m p v).met.map metD) → Q (.ref q) H') ∧ (20000 < many m p v → ∀ H', Ex H H' → E (.ref TL) none H')
theorem c_eventsX (D : Df K mg "events" s_events ["program", "make", "world"]) (T : Txt K mg w dF dB aSt aOt aMm) (c : GoC K C) (c_need_run : Cl Pg w K mg base 6 "need_run" (spD K 3 R_need_run)) (c_gone : ClX Pg w K mg base 31 "gone" (spGone K C TL)) : ClX Pg w K mg base 32 "events" (spEvX K TL) := by
  refine D.clx sc_events (fun vs H Q E h => h.1) (fun f cdv A outer s H vs Q E hr h => ?_)
  have tkx := takes_of (X := cxOf (L2.CX Pg w) Pg w K mg base ["program", "make", "world"] "events" (defScope s_events) f cdv A outer s H E) rfl rfl rfl rfl
  refine ⟨_, (pss_cons (ps_expr (pe_u c_need_run hr (by omega) rfl (pa_cons (pv 0) (pa_cons (pv 1) (pa_cons (pv 2) pa_nil)))))
    (pss_one (ps_ret (pe_fld (pe_ux c_gone hr (by omega) rfl tkx (fun _ _ _ _ h => h) (pa_cons (pv 0) (pa_cons (pv 1) (pa_cons (pv 2) pa_nil)))) rfl))))
    , ?_⟩
  obtain ⟨_, p, m, v, hds, R, k, kx⟩ := h
  obtain ⟨x, y, z, rfl, h1, h2, h3⟩ := dps3 hds
  refine qd_drop (ed_call (K := K) (eda_cons (ed_var rfl h1) (eda_cons (ed_var rfl h2) (eda_cons (ed_var rfl h3) eda_nil))) ⟨p, m, v, rfl, R, rfl⟩) fun H1 e1 => ?_
  refine q_gone (K := K) (C := C) (TL := TL) (eda_cons (ed_var (i := 0) rfl (h1.ex e1)) (eda_cons (ed_var (i := 1) rfl (h2.ex e1)) (eda_cons (ed_var (i := 2) rfl (h3.ex e1)) eda_nil))) R (fun hl a d H2 e2 G ow => ?_) fun hl H2 e2 => kx hl H2 (e1.trans e2)
  obtain ⟨xm, hm1, hm2⟩ := G.mt
  exact ⟨a, C, d.dx, _, _, rfl, G.ins, c.cls, c.na _ (mem_f 12 rfl), rfl, k hl d.lm xm H2 (fresh_back e1 (ow _ own_lm)) (e1.trans e2) hm1 hm2⟩
def R_events (ds : List PyData) (es : List PyData) : Prop := ∃ (p : P) (m : Mk) (v : W2), ds = [.tuple (progD p), makeD m, wD v] ∧ RunOk p m v ∧ many m p v ≤ 20000 ∧ es = (runX m p v).met.map metD
theorem c_events (h : ClX Pg w K mg base 32 "events" (spEvX K TL)) : Cl Pg w K mg base 32 "events" (spDL K 3 R_events) := h.cl.imp fun vs H Q E q => by
  obtain ⟨hl, ds, es, hds, ⟨p, m, v, rfl, R, hm, rfl⟩, k⟩ := q
  exact ⟨hl, p, m, v, hds, R, fun _ x xs H' hx e h1 h2 => k x xs H' hx e h1 h2, fun h => by omega⟩
end
end LW
namespace LW
open PySem PySem.Spec PyProof.Rows L2 Evl
open LB (Deed Lf P Hd S Mk Co Ev StOk)
abbrev T3 := Int × Int × Int
def mn (i j : Int) : Int := if j < i then j else i
/-- the beat at which two rows of touches part -/
def partT : List T3 → List T3 → Int → Int
  | [], [], d => d
  | t :: _, [], _ => t.1
  | [], t :: _, _ => t.1
  | t :: r, u :: s, d => if t = u then partT r s d else mn t.1 u.1
def partB (s t : S) : Int := partT s.touches t.touches (mn s.beats t.beats)
def lastAt (met : List (List Nat × Int)) (b : Int) : PyData := match (met.filter fun e => decide (e.2 ≤ b)).getLast? with
  | some e => pathD e.1
  | none => .none
def likeS (s t : S) : Bool := decide ((s.beats, s.touches) = (t.beats, t.touches))
def partedD (s t : S) : PyData := if likeS s t = true then .none else .tuple [.int (partB s t), lastAt s.met (partB s t), lastAt t.met (partB s t)]
def seenP (q : Int × List T3) : PyData := .tuple [.int q.1, .tuple (q.2.map tchD)]
theorem map_inj {α β : Type} {f : α → β} (h : ∀ a b, f a = f b → a = b) : ∀ {l r : List α}, l.map f = r.map f → l = r
  | [], [], _ => rfl
  | [], _ :: _, e => by simp at e
  | _ :: _, [], e => by simp at e
  | a :: l, b :: r, e => by
    obtain ⟨e1, e2⟩ := List.cons.inj e
    rw [h a b e1, map_inj h e2]
theorem seenP_inj (a b : Int × List T3) (h : seenP a = seenP b) : a = b := by
  obtain ⟨a1, a2⟩ := a; obtain ⟨b1, b2⟩ := b
  simp only [seenP, PyData.tuple.injEq, List.cons.injEq, PyData.int.injEq, and_true] at h
  rw [h.1, map_inj tchD_inj h.2]
theorem plain_seen (a : Int × List T3) : plainD (seenP a) = true := plain_tup (all_cons (plain_int _) (all_cons (plain_tup (all_map fun t _ => plain_tch t)) all_nil))
theorem sh_seen (s : S) : Sh 3 (seenD s) := sh_tup (all_cons sh_int (all_cons (sh_tup (all_map fun t _ => (sh_tch t))) all_nil))
theorem eqv_seen (s t : S) : PyData.eqv (seenD s) (seenD t) = likeS s t := eqv_enc seenP_inj plain_seen (s.beats, s.touches) (t.beats, t.touches)
theorem tdat_seen (s : S) : tdat (seenD s) = true := by
  have h : tdats (s.touches.map tchD) = true := tdats_map tdat_tch _
  simp [seenD, tdat, tdats, h]
theorem likeS_comm (s t : S) : likeS s t = likeS t s := by unfold likeS; by_cases h : (s.beats, s.touches) = (t.beats, t.touches) <;> simp [h, eq_comm]
theorem mn_comm (i j : Int) : mn i j = mn j i := by unfold mn; split <;> split <;> omega
theorem partT_comm : ∀ (a b : List T3) (d : Int), partT a b d = partT b a d
  | [], [], _ => rfl
  | _ :: _, [], _ => rfl
  | [], _ :: _, _ => rfl
  | t :: r, u :: s, d => by
    unfold partT
    by_cases h : t = u
    · rw [if_pos h, if_pos h.symm, partT_comm r s d]
    · rw [if_neg h, if_neg (Ne.symm h), mn_comm]
theorem partB_comm (s t : S) : partB s t = partB t s := by unfold partB; rw [partT_comm, mn_comm]
theorem cutOne (ds : List PyData) (n : Nat) : cutD ds (some (n : Int)) (some ((n : Int) + 1)) = (ds.drop n).take 1 := by
  unfold cutD
  rw [show HT.sIx ds.length 0 (some (n : Int)) = min n ds.length from HT.sIx_nat _ _ n, show HT.sIx ds.length ds.length (some ((n : Int) + 1)) = min (n + 1) ds.length from HT.sIx_nat ds.length ds.length (n + 1)]
  rcases Nat.lt_or_ge n ds.length with h | h
  · rw [Nat.min_eq_left (Nat.le_of_lt h), Nat.min_eq_left h, show n + 1 - n = 1 by omega]
  · rw [Nat.min_eq_right h, Nat.min_eq_right (by omega), List.drop_of_length_le h, List.drop_of_length_le (Nat.le_refl _), List.take_nil, List.take_nil]
section
variable {K : PySem.W.Frag} {σ : L2.St} {H : Hp} {ta tb te : TE} {tr : TA}
theorem ed_min {ns : List Int} {k : Int} (h : EDL K te σ H (ns.map PyData.int)) (hne : 0 < ns.length) (hk : ∀ m, m ∈ ns → (∀ y, y ∈ ns → m ≤ y) → m = k) : ED K (tCB (rMin K) (tCons te tNil)) σ H (.int k) := fun H1 e Q q =>
  h H1 e _ fun p xs H2 _ e2 hp hxs => ⟨p, ns, rfl, by rw [← dps_ints hxs]; exact sq_of hp, hne, fun m h1 h2 => by rw [hk m h1 h2]; exact q _ H2 e2 (.int _)⟩
theorem ed_min2 {i j : Int} (h : EDA K tr σ H [.int i, .int j]) : ED K (tCB (fun xs H Q => ∃ i j, xs = [V.int i, V.int j] ∧ Q (.int (if j < i then j else i)) H) tr) σ H (.int (mn i j)) := fun H1 e Q q =>
  h H1 e _ fun vs H2 e2 hvs => by
    obtain ⟨x, y, rfl, h1, h2⟩ := dps2 hvs
    exact ⟨i, j, by rw [dp_int h1, dp_int h2], q _ H2 e2 (.int _)⟩
theorem ed_max2 {i j : Int} (h : EDA K tr σ H [.int i, .int j]) : ED K (tCB (fun xs H Q => ∃ i j, xs = [V.int i, V.int j] ∧ Q (.int (if j > i then j else i)) H) tr) σ H (.int (if j > i then j else i)) := fun H1 e Q q =>
  h H1 e _ fun vs H2 e2 hvs => by
    obtain ⟨x, y, rfl, h1, h2⟩ := dps2 hvs
    exact ⟨i, j, by rw [dp_int h1, dp_int h2], q _ H2 e2 (.int _)⟩
theorem ed_catT' {ds es : List PyData} (ha : ED K ta σ H (.tuple ds)) (hb : ED K tb σ H (.tuple es)) (hz : ds.length + es.length ≤ 100000) : ED K (tOp (rCatA K) ta tb) σ H (.tuple (ds ++ es)) := ed_catT ha hb hz
end
section
variable {Pg : Program} {w : World} {K : PySem.W.Frag} {mg : Str → Option Value} {base : Heap} {dF dB aSt aOt aMm C TL : Addr}
abbrev s_seen_of : Stmt := top 58
theorem sc_seen_of : FnScope ["going"] ["going"] (defScope s_seen_of) := ⟨rfl, rfl, rfl, by decide +kernel, rfl, by decide +kernel, by decide +kernel⟩
def spSeen (K : PySem.W.Frag) (C : Addr) : Sp := fun vs H Q _ => vs.length = 1 ∧ ∃ a d m s z, vs = [.ref a] ∧ GoAt K C H a d m s z ∧ s.tabs.length < 1000 ∧ ∀ v H', Ex H H' → Dp K H' v (seenD s) → Q v H'
theorem c_seen_of (D : Df K mg "seen_of" s_seen_of ["going"]) (T : Txt K mg w dF dB aSt aOt aMm) (m_outcome : Mt Pg w K mg base 1 C "outcome" (spM0 K C 0 R_outcome)) : Cl Pg w K mg base 2 "seen_of" (spSeen K C) := by
  refine D.cl sc_seen_of (fun vs H Q E h => h.1) (fun f cdv A outer s H vs Q E hr h => ?_)
  refine ⟨_, (pss_one (ps_ret (pe_ix ix_tup (pe_m0 m_outcome hr (by omega) (pv 0)) pe_int (fun _ _ => rfl))))
    , ?_⟩
  obtain ⟨_, a, d, m, st, z, rfl, G, ht, k⟩ := h
  exact sd_ret (K := K) (d := seenD st) (ed_ixT (i := 2) (ds := [.tuple (st.said.map PyData.int), worldD st.boxes st.tabs, seenD st]) (ed_m0 (K := K) (i := 0) (n := 0) (R := R_outcome) G rfl eda_nil ⟨rfl, ht, rfl⟩) ed_int rfl) k
theorem ed_seen {σ : L2.St} {H : Hp} {te : TE} {E : XK} {a : Addr} {d : Ad} {m : Mk} {s : S} {z : Nat} (h : Ev te σ H (.ref a)) (G : GoAt K C H a d m s z) (ht : s.tabs.length < 1000) : ED K (tCall (spSeen K C) [] E (tCons te tNil)) σ H (seenD s) := fun H1 e Q q =>
  h H1 e _ fun H2 e2 => ⟨rfl, a, d, m, s, z, rfl, G.ex (e.trans e2), ht, fun v H3 e3 hv => q v H3 (e2.trans e3) hv⟩
abbrev s_two_gone : Stmt := top 57
theorem sc_two_gone : FnScope ["program", "make", "one", "other", "world"] ["program", "make", "one", "other"] (defScope s_two_gone) := ⟨rfl, rfl, rfl, by decide +kernel, rfl, by decide +kernel, by decide +kernel⟩
def spTwo (K : PySem.W.Frag) (C : Addr) : Sp := fun vs H Q _ => vs.length = 4 ∧ ∃ p m v1 v2, DpAll K H vs [.tuple (progD p), makeD m, wD v1, wD v2] ∧ RunOk p m v1 ∧ RunOk p m v2 ∧ many m p v1 ≤ 20000 ∧ many m p v2 ≤ 20000 ∧
  ∀ q a1 d1 a2 d2 H', H q = none → Ex H H' → H' q = some (.lst [.ref a1, .ref a2]) → GoAt K C H' a1 d1 m (runX m p v1) (runX m p v1).met.length → GoAt K C H' a2 d2 m (runX m p v2) (runX m p v2).met.length → Q (.ref q) H'
theorem c_two_gone (D : Df K mg "two_gone" s_two_gone ["program", "make", "one", "other"]) (T : Txt K mg w dF dB aSt aOt aMm) (c_need_run : Cl Pg w K mg base 6 "need_run" (spD K 3 R_need_run)) (c_need_world : Cl Pg w K mg base 5 "need_world" (spD K 1 R_need_world)) (c_gone : Cl Pg w K mg base 31 "gone" (spGone K C TL)) : Cl Pg w K mg base 32 "two_gone" (spTwo K C) := by
  refine D.cl sc_two_gone (fun vs H Q E h => h.1) (fun f cdv A outer s H vs Q E hr h => ?_)
  refine ⟨_, (pss_cons (ps_expr (pe_u c_need_run hr (by omega) rfl (pa_cons (pv 0) (pa_cons (pv 1) (pa_cons (pv 2) pa_nil)))))
    (pss_cons (ps_expr (pe_u c_need_world hr (by omega) rfl (pa_cons (pv 3) pa_nil)))
    (pss_one (ps_ret (pe_lc (own := [("world", 4)]) (g := (gName 4)) (tt := tYes) (by rfl) sc_two_gone.nd (pi_tup (pe_tup (pa_cons (pv 2) (pa_cons (pv 3) pa_nil)))) (blkOk_by (own := [("world", 4)]) (N := ["program", "make", "one", "other", "world"]) (sc := defScope s_two_gone) (by decide +kernel)) (fun _ _ _ _ _ => (pg_name (i := 4) sc_two_gone.nd rfl (Or.inl rfl))) (fun _ _ _ _ _ => pts_nil) (fun _ _ _ _ _ => (pe_u c_gone hr (by omega) rfl (pa_cons (pv 0) (pa_cons (pv 1) (pa_cons (pv 4) pa_nil))))))))))
    , ?_⟩
  obtain ⟨_, p, m, v1, v2, hds, R1, R2, hm1, hm2, k⟩ := h
  obtain ⟨x, y, z, u, rfl, h1, h2, h3, h4⟩ := dps4 hds
  refine qd_drop (ed_call (K := K) (eda_cons (ed_var rfl h1) (eda_cons (ed_var rfl h2) (eda_cons (ed_var rfl h3) eda_nil))) ⟨p, m, v1, rfl, R1, rfl⟩) fun H1 e1 => ?_
  refine qd_drop (ed_call (K := K) (eda_cons (ed_var rfl (h4.ex e1)) eda_nil) ⟨v2.1, v2.2, rfl, R2.good, rfl⟩) fun H2 e2 => ?_
  have e02 := e1.trans e2
  have key : ∀ ta : TE, ED K ta [some x, some y, some z, some u, none] H2 (.tuple [wD v1, wD v2]) → tLc (iTup K ta) (gName 4) tYes (tCall (spGone K C TL) [] E0 (tCons (tVar 0) (tCons (tVar 1) (tCons (tVar 4) tNil)))) [4] [some x, some y, some z, some u, none] H2 Q := fun ta hta => hta H2 (Ex.refl H2) _ fun tv H3 e3 htv => by
    obtain ⟨tp, xs, rfl, ht1, ht2⟩ := dp_tup htv
    obtain ⟨z3, u3, rfl, hz3, hu3⟩ := dps2 ht2
    have e03 := e02.trans e3
    refine ⟨tp, rfl, ⟨_, ht1⟩, fun Dl hD => ?_⟩
    have hD0 : H Dl = none := fresh_back e03 hD
    -- a turn
    have turn : ∀ (v : W2) (zz : V) (H4 : Hp) (Q' : VK), RunOk p m v → many m p v ≤ 20000 → Ex H3 H4 → Dp K H4 zz (wD v) → (∀ a d H5, Ex H4 H5 → GoAt K C H5 a d m (runX m p v) (runX m p v).met.length → (∀ b ∈ d.own a, H4 b = none) → Q' (.ref a) H5) →
        tCall (spGone K C TL) [] E0 (tCons (tVar 0) (tCons (tVar 1) (tCons (tVar 4) tNil))) [some x, some y, some z, some u, some zz] H4 Q' := fun v zz H4 Q' R hm e4 hzz kk => q_gone (K := K) (C := C) (TL := TL) (eda_cons (ed_var (i := 0) rfl (h1.ex (e03.trans e4))) (eda_cons (ed_var (i := 1) rfl (h2.ex (e03.trans e4))) (eda_cons (ed_var (i := 4) rfl hzz) eda_nil))) R (fun _ a d H5 e5 G ow => kk a d H5 e5 G ow) fun h => by omega
    refine ⟨fun i n H4 => n = 2 - i ∧ Ex H3 H4 ∧ ((i = 0 ∧ H4 Dl = some (.lst [])) ∨ (∃ a1 d1, i = 1 ∧ H4 Dl = some (.lst [.ref a1]) ∧ GoAt K C H4 a1 d1 m (runX m p v1) (runX m p v1).met.length ∧ Dl ∉ d1.own a1) ∨
      (∃ a1 d1 a2 d2, i = 2 ∧ H4 Dl = some (.lst [.ref a1, .ref a2]) ∧ GoAt K C H4 a1 d1 m (runX m p v1) (runX m p v1).met.length ∧ GoAt K C H4 a2 d2 m (runX m p v2) (runX m p v2).met.length)), ⟨2, rfl, Ex.new hD, .inl ⟨rfl, upd_same⟩⟩, ?_⟩
    rintro i n H4 ⟨rfl, e4, h⟩
    have exD : ∀ {H5 : Hp} {o : HO}, Ex H3 H5 → Ex H3 (upd H5 Dl o) := fun e => Ex.mut e hD
    rcases h with ⟨rfl, hl⟩ | ⟨a1, d1, rfl, hl, G1, hn1⟩ | ⟨a1, d1, a2, d2, rfl, hl, G1, G2⟩
    · refine .inr ⟨⟨[z3, u3], z3, ex_t e4 ht1, rfl⟩, _, fun H' h => h, ?_⟩
      rintro xx H5 ⟨rfl, hy⟩
      obtain rfl : z3 = xx := Option.some.inj (hy _ (ex_t e4 ht1))
      refine ⟨rfl, ?_⟩
      refine turn v1 z3 _ _ R1 hm1 e4 (hz3.ex e4) fun a d H6 e6 G ow => ?_
      have hl6 := e6 _ _ hl
      have hn : Dl ∉ d.own a := fun hm => by have := ow Dl hm; rw [hl] at this; cases this
      exact ⟨[], hl6, sz_lt (by decide), 1, by decide, rfl, exD (e4.trans e6), .inr (.inl ⟨a, d, rfl, upd_same, G.mutOther hl6 hn, hn⟩)⟩
    · refine .inr ⟨⟨[z3, u3], u3, ex_t e4 ht1, rfl⟩, _, fun H' h => h, ?_⟩
      rintro xx H5 ⟨rfl, hy⟩
      obtain rfl : u3 = xx := Option.some.inj (hy _ (ex_t e4 ht1))
      refine ⟨rfl, ?_⟩
      refine turn v2 u3 _ _ R2 hm2 e4 (hu3.ex e4) fun a d H6 e6 G ow => ?_
      have hl6 := e6 _ _ hl
      have hn : Dl ∉ d.own a := fun hm => by have := ow Dl hm; rw [hl] at this; cases this
      exact ⟨[.ref a1], hl6, sz_lt (show 1 < 100000 by decide), 0, by decide, rfl, exD (e4.trans e6), .inr (.inr ⟨a1, d1, a, d, rfl, upd_same, (G1.ex e6).mutOther hl6 hn1, G.mutOther hl6 hn⟩)⟩
    · exact .inl ⟨⟨[z3, u3], ex_t e4 ht1, Nat.le_refl _⟩, k Dl a1 d1 a2 d2 H4 hD0 (e03.trans e4) hl G1 G2⟩
  exact key _ (ed_tup (eda_cons (ed_var (i := 2) rfl (h3.ex e02)) (eda_cons (ed_var (i := 3) rfl (h4.ex e02)) eda_nil)) (Nat.le_of_ble_eq_true rfl))
theorem run_tabs {p : P} {m : Mk} {v : W2} (R : RunOk p m v) : (runX m p v).tabs.length < 1000 := by rw [(run_good R).tn]; decide
theorem q_two {σ : L2.St} {H : Hp} {tr : TA} {p : P} {m : Mk} {v1 v2 : W2} {Q : VK} {E : XK} (h : EDA K tr σ H [.tuple (progD p), makeD m, wD v1, wD v2]) (R1 : RunOk p m v1) (R2 : RunOk p m v2) (m1 : many m p v1 ≤ 20000) (m2 : many m p v2 ≤ 20000)
    (k : ∀ q a1 d1 a2 d2 H', H q = none → Ex H H' → H' q = some (.lst [.ref a1, .ref a2]) → GoAt K C H' a1 d1 m (runX m p v1) (runX m p v1).met.length → GoAt K C H' a2 d2 m (runX m p v2) (runX m p v2).met.length → Q (.ref q) H') : tCall (spTwo K C) [] E tr σ H Q := h H (Ex.refl H) _ fun vs H1 e1 hvs =>
  ⟨by rw [List.append_nil, dps_len hvs]; rfl, p, m, v1, v2, by rw [List.append_nil]; exact hvs, R1, R2, m1, m2, fun q a1 d1 a2 d2 H' hq e' hl G1 G2 => k q a1 d1 a2 d2 H' (fresh_back e1 hq) (e1.trans e') hl G1 G2⟩
theorem ev_go {σ : L2.St} {H : Hp} {te tb : TE} {q a1 a2 : Addr} (h : Ev te σ H (.ref q)) (hl : H q = some (.lst [.ref a1, .ref a2])) : Ev (tOp (rIxL K) te (tC (.int 0))) σ H (.ref a1) ∧ Ev (tOp (rIxL K) te (tC (.int 1))) σ H (.ref a2) :=
  ⟨ev_op h ev_c (rv_ixL (sq_of hl) rfl), ev_op h ev_c (rv_ixL (sq_of hl) rfl)⟩
abbrev s_seen_alike : Stmt := top 59
theorem sc_seen_alike : FnScope ["program", "make", "one", "other", "goings"] ["program", "make", "one", "other"] (defScope s_seen_alike) := ⟨rfl, rfl, rfl, by decide +kernel, rfl, by decide +kernel, by decide +kernel⟩
def R_two (f : S → S → PyData) (ds : List PyData) (d : PyData) : Prop := ∃ (p : P) (m : Mk) (v1 v2 : W2), ds = [.tuple (progD p), makeD m, wD v1, wD v2] ∧ RunOk p m v1 ∧ RunOk p m v2 ∧ many m p v1 ≤ 20000 ∧ many m p v2 ≤ 20000 ∧ d = f (runX m p v1) (runX m p v2)
theorem c_seen_alike (D : Df K mg "seen_alike" s_seen_alike ["program", "make", "one", "other"]) (T : Txt K mg w dF dB aSt aOt aMm) (c_two_gone : Cl Pg w K mg base 32 "two_gone" (spTwo K C)) (c_seen_of : Cl Pg w K mg base 2 "seen_of" (spSeen K C)) : Cl Pg w K mg base 33 "seen_alike" (spD K 4 (R_two fun s t => .bool (likeS s t))) := by
  refine D.cl sc_seen_alike (fun vs H Q E h => h.1) (fun f cdv A outer s H vs Q E hr h => ?_)
  refine ⟨_, (pss_cons (ps_set (i := 4) sc_seen_alike.nd rfl (Or.inl rfl) (pe_u c_two_gone hr (by omega) rfl (pa_cons (pv 0) (pa_cons (pv 1) (pa_cons (pv 2) (pa_cons (pv 3) pa_nil))))))
    (pss_one (ps_ret (pe_cmpR (op_eqD hr.units) (pe_u c_seen_of hr (by omega) rfl (pa_cons (pe_ix ix_list (pv 4) pe_int (fun _ _ => rfl)) pa_nil)) (pe_u c_seen_of hr (by omega) rfl (pa_cons (pe_ix ix_list (pv 4) pe_int (fun _ _ => rfl)) pa_nil)) (nomark _)))))
    , ?_⟩
  obtain ⟨_, ds, d, hds, ⟨p, m, v1, v2, rfl, R1, R2, m1, m2, rfl⟩, k⟩ := h
  obtain ⟨x, y, z, u, rfl, h1, h2, h3, h4⟩ := dps4 hds
  refine q_two (K := K) (eda_cons (ed_var (i := 0) rfl h1) (eda_cons (ed_var (i := 1) rfl h2) (eda_cons (ed_var (i := 2) rfl h3) (eda_cons (ed_var (i := 3) rfl h4) eda_nil)))) R1 R2 m1 m2 fun q a1 d1 a2 d2 H1 hq e1 hl G1 G2 => ?_
  have ee := ev_go (K := K) (σ := [some x, some y, some z, some u, some (.ref q)]) (te := tVar 4) (tb := tVar 4) (ev_var rfl) hl
  exact sd_ret (K := K) (d := .bool (likeS (runX m p v1) (runX m p v2))) (ed_is (ed_eqD (ed_seen ee.1 G1 (run_tabs R1)) (ed_seen ee.2 G2 (run_tabs R2)) ((sh_seen _).shaped) ((sh_seen _).shaped)) (congrArg PyData.bool (eqv_seen _ _))) fun v H2 e2 => k v H2 (e1.trans e2)
abbrev s_beat_parted : Stmt := top 60
theorem sc_beat_parted : FnScope ["mine", "yours", "number", "some", "touch"] ["mine", "yours"] (defScope s_beat_parted) := ⟨rfl, rfl, rfl, by decide +kernel, rfl, by decide +kernel, by decide +kernel⟩
def R_beat_parted (ds : List PyData) (d : PyData) : Prop := ∃ s t : S, ds = [seenD s, seenD t] ∧ s.touches.length ≤ 90000 ∧ t.touches.length ≤ 90000 ∧ d = .int (partB s t)
theorem min_one (t : T3) : ∀ m, m ∈ [t.1] → (∀ y, y ∈ [t.1] → m ≤ y) → m = t.1 := fun m h _ => List.mem_singleton.mp h
theorem min_two (t u : T3) : ∀ m, m ∈ [t.1, u.1] → (∀ y, y ∈ [t.1, u.1] → m ≤ y) → m = mn t.1 u.1 := fun m h g => by
  have g1 := g t.1 (by simp)
  have g2 := g u.1 (by simp)
  unfold mn
  simp only [List.mem_cons, List.not_mem_nil, or_false] at h
  split <;> omega
def fstD : PyData → PyData
  | .tuple (d :: _) => d
  | d => d
theorem c_beat_parted (D : Df K mg "beat_parted" s_beat_parted ["mine", "yours"]) (T : Txt K mg w dF dB aSt aOt aMm) : Cl Pg w K mg base 1 "beat_parted" (spD K 2 R_beat_parted) := by
  refine D.cl sc_beat_parted (fun vs H Q E h => h.1) (fun f cdv A outer s H vs Q E hr h => ?_)
  refine ⟨_, (pss_cons (ps_for PassesOwn.never rfl (pi_range1 rfl T.n_range (pa_cons (pe_callB (call_max2 rfl) (by rfl) T.n_max (by decide +kernel) (pa_cons (pe_callB call_len_seq (by rfl) T.n_len (by decide +kernel) (pa_cons (pe_ix ix_tup (pv 0) pe_int (fun _ _ => rfl)) pa_nil)) (pa_cons (pe_callB call_len_seq (by rfl) T.n_len (by decide +kernel) (pa_cons (pe_ix ix_tup (pv 1) pe_int (fun _ _ => rfl)) pa_nil)) pa_nil))) pa_nil)) (pg_name (i := 2) sc_beat_parted.nd rfl (Or.inl rfl))
    (pss_cons (ps_set (i := 3) sc_beat_parted.nd rfl (Or.inl rfl) (pe_op op_catA (pe_slice sl_tupA (pe_ix ix_tup (pv 0) pe_int (fun _ _ => rfl)) (po_some (pv 2)) (po_some (pe_op op_add (pv 2) pe_int))) (pe_slice sl_tupA (pe_ix ix_tup (pv 1) pe_int (fun _ _ => rfl)) (po_some (pv 2)) (po_some (pe_op op_add (pv 2) pe_int)))))
    (pss_one (ps_if (PW.pt (pw_or (pt_cmpR op_eq (pe_callB call_len_seq (by rfl) T.n_len (by decide +kernel) (pa_cons (pv 3) pa_nil)) pe_int (nomark _)) (pw_or1 (pt_cmpR (op_neD hr.units) (pe_ix ix_tup (pv 3) pe_int (fun _ _ => rfl)) (pe_ix ix_tup (pv 3) pe_int (fun _ _ => rfl)) (nomark _))))) (pss_one (ps_ret (pe_callB (cr_min rfl) (by rfl) T.n_min (by decide +kernel) (pa_cons (pe_lc (own := [("touch", 4)]) (g := (gName 4)) (tt := tYes) (by rfl) sc_beat_parted.nd (pi_tup (pv 3)) (blkOk_by (own := [("touch", 4)]) (N := ["mine", "yours", "number", "some", "touch"]) (sc := defScope s_beat_parted) (by decide +kernel)) (fun _ _ _ _ _ => (pg_name (i := 4) sc_beat_parted.nd rfl (Or.inl rfl))) (fun _ _ _ _ _ => pts_nil) (fun _ _ _ _ _ => (pe_ix (ix_tupK K) (pv 4) pe_int (fun _ _ => rfl)))) pa_nil)))) pss_nil))))
    (pss_one (ps_ret (pe_callB (call_min2 rfl) (by rfl) T.n_min (by decide +kernel) (pa_cons (pe_ix ix_tup (pv 0) pe_int (fun _ _ => rfl)) (pa_cons (pe_ix ix_tup (pv 1) pe_int (fun _ _ => rfl)) pa_nil))))))
    , ?_⟩
  obtain ⟨_, ds, d, hds, ⟨st, tt, rfl, ls, lt, rfl⟩, k⟩ := h
  obtain ⟨x, y, rfl, h1, h2⟩ := dps2 hds
  have tA : ∀ {σ : L2.St} {H1 : Hp}, σ[0]? = some (some x) → Ex H H1 → ED K (tOp (rIxT K) (tVar 0) (tC (.int 1))) σ H1 (.tuple (st.touches.map tchD)) := fun hσ e => ed_ixT (ed_var hσ (h1.ex e)) ed_int rfl
  have tB : ∀ {σ : L2.St} {H1 : Hp}, σ[1]? = some (some y) → Ex H H1 → ED K (tOp (rIxT K) (tVar 1) (tC (.int 1))) σ H1 (.tuple (tt.touches.map tchD)) := fun hσ e => ed_ixT (ed_var hσ (h2.ex e)) ed_int rfl
  have hrg : EDA K _ _ H [_] := eda_cons (ed_max2 (K := K) (σ := [some x, some y, none, none, none]) (eda_cons (ed_lenT (tA rfl (Ex.refl H))) (eda_cons (ed_lenT (tB rfl (Ex.refl H))) eda_nil))) eda_nil
  rw [List.length_map, List.length_map] at hrg
  refine q_forR1 (eva_i hrg) (by split <;> omega) (fun i σ' H' => ∃ (v3 v2 : Option V), σ' = [some x, some y, v2, v3, none] ∧ Ex H H' ∧ partT (st.touches.drop i) (tt.touches.drop i) (mn st.beats tt.beats) = partB st tt) (fun H1 e1 => ⟨none, none, rfl, e1, rfl⟩) ?_ ?_
  · rintro i σ' H' hi ⟨v3, v2, rfl, e1, hp⟩
    have hi2 : i < st.touches.length ∨ i < tt.touches.length := by
      by_cases h : (tt.touches.length : Int) > st.touches.length
      · rw [if_pos h] at hi; right; omega
      · rw [if_neg h] at hi; left; omega
    show tSeq _ _ _ [some x, some y, some (.int (i : Int)), v3, none] H'
    have one : ∀ {σ : L2.St}, σ[2]? = some (some (.int (i : Int))) → ED K (tOp (rI0 fun i j => .int (i + j)) (tVar 2) (tC (.int 1))) σ H' (.int ((i : Int) + 1)) := fun h => ed_add (K := K) (ed_var h (.int _)) (ed_int (i := 1))
    have hcat := ed_catT (K := K) (ed_slT (K := K) (σ := [some x, some y, some (.int (i : Int)), v3, none]) (tA rfl e1) (eo_d (K := K) (ed_var (i := 2) rfl (.int (i : Int)))) (eo_d (one rfl))) (ed_slT (tB rfl e1) (eo_d (K := K) (ed_var (i := 2) rfl (.int (i : Int)))) (eo_d (one rfl))) (by
      rw [cutOne, cutOne, List.length_take, List.length_take]
      omega)
    rw [cutOne, cutOne, ← List.map_drop, ← List.map_drop, ← List.map_take, ← List.map_take, ← List.map_append] at hcat
    refine qd_asg hcat fun v H1 e2 hv => ?_
    have e02 := e1.trans e2
    -- the earliest of some touches
    have least : ∀ (l : List T3) (σ : L2.St) {H2 : Hp} {b : Int}, σ = [some x, some y, some (.int (i : Int)), some v, none] → Dp K H2 v (.tuple (l.map tchD)) → l.length ≤ 10 → 0 < l.length → (∀ m, m ∈ l.map (·.1) → (∀ y, y ∈ l.map (·.1) → m ≤ y) → m = b) → ED K (tCB (rMin K) (tCons (tLc (iTup K (tVar 3)) (gName 4) tYes (tOp (rIxT K) (tVar 4) (tC (.int 0))) [4]) tNil)) σ H2 (.int b) := fun l σ H2 b hσ hv2 hl h0 hb => by
      subst hσ
      have hlc := edl_lc (K := K) (g := gName 4) (tt := tYes) (vs := [4]) (te := tOp (rIxT K) (tVar 4) (tC (.int 0))) (fun _ => true) fstD (it_tup (σ := [some x, some y, some (.int (i : Int)), some v, none]) (ed_var (i := 3) rfl hv2)) (by rw [List.length_map]; omega) (fun d hd _ => by
        obtain ⟨t, _, rfl⟩ := List.mem_map.mp hd
        rfl) (fun i d v H3 e3 hi hd => by
        have hm := List.mem_of_getElem? hi
        obtain ⟨t, _, rfl⟩ := List.mem_map.mp hm
        exact ⟨_, tk_one _, rfl, et_yes, fun _ => ed_ixT (ed_var (i := 4) rfl hd) ed_int rfl⟩)
      rw [List.filter_eq_self.mpr (fun _ _ => rfl), List.map_map] at hlc
      refine ed_min (ns := l.map (·.1)) ?_ (by rw [List.length_map]; exact h0) hb
      rw [List.map_map]
      exact hlc
    have tst : ∀ {l : List T3} {b : Bool}, Dp K H1 v (.tuple (l.map tchD)) → decide ((l.length : Int) = 1) = b → EvT (tTest (tOp rEq (tCB (rLenS K) (tCons (tVar 3) tNil)) (tC (.int 1)))) [some x, some y, some (.int (i : Int)), some v, none] H1 b := fun {l b} hv hb => et_is (et_d (ed_eqI (ed_lenT (ed_var (i := 3) rfl hv)) (ed_int (i := 1)))) (by rw [List.length_map]; exact hb)
    cases ha : st.touches.drop i with
    | nil =>
      cases hb : tt.touches.drop i with
      | nil =>
        have h1 := List.drop_eq_nil_iff.mp ha
        have h2 := List.drop_eq_nil_iff.mp hb
        omega
      | cons u s2 =>
        rw [ha, hb] at hp hv
        refine s_when (b := true) (et_or (a := true) (b := true) (tst (l := [u]) hv rfl) (fun h => by cases h)) (fun _ H2 e3 => ?_) fun h => by cases h
        refine sd_ret (K := K) (d := .int (partB st tt)) (ed_is (least [u] _ rfl (hv.ex e3) (Nat.le_of_ble_eq_true rfl) (Nat.le_of_ble_eq_true rfl) (min_one u)) ?_) fun w H3 e4 => k w H3 ((e02.trans e3).trans e4)
        rw [← hp]
        rfl
    | cons t r =>
      cases hb : tt.touches.drop i with
      | nil =>
        rw [ha, hb] at hp hv
        refine s_when (b := true) (et_or (a := true) (b := true) (tst (l := [t]) hv rfl) (fun h => by cases h)) (fun _ H2 e3 => ?_) fun h => by cases h
        refine sd_ret (K := K) (d := .int (partB st tt)) (ed_is (least [t] _ rfl (hv.ex e3) (Nat.le_of_ble_eq_true rfl) (Nat.le_of_ble_eq_true rfl) (min_one t)) ?_) fun w H3 e4 => k w H3 ((e02.trans e3).trans e4)
        rw [← hp]
        rfl
      | cons u s2 =>
        rw [ha, hb] at hp hv
        have hv2 : Dp K H1 v (.tuple ([t, u].map tchD)) := hv
        refine s_when (b := !decide (t = u)) (et_or (a := false) (tst (l := [t, u]) hv2 rfl) (fun _ => et_is (et_d (ed_neD (ed_ixT (ed_var (i := 3) rfl hv2) (ed_int (i := 0)) rfl) (ed_ixT (ed_var (i := 3) rfl hv2) (ed_int (i := 1)) rfl) ((sh_tch t).shaped) ((sh_tch u).shaped))) (by rw [eqv_enc tchD_inj plain_tch]; rfl))) (fun hne H2 e3 => ?_) fun heq H2 e3 => ?_
        · refine sd_ret (K := K) (d := .int (partB st tt)) (ed_is (least [t, u] _ rfl (hv2.ex e3) (Nat.le_of_ble_eq_true rfl) (Nat.le_of_ble_eq_true rfl) (min_two t u)) ?_) fun w H3 e4 => k w H3 ((e02.trans e3).trans e4)
          rw [← hp]
          unfold partT
          rw [if_neg (by simpa using hne)]
        · refine ⟨_, _, rfl, e02.trans e3, ?_⟩
          rw [← hp, ← List.drop_drop, ← List.drop_drop, ha, hb]
          conv => rhs; unfold partT
          rw [if_pos (by simpa using heq)]
          rfl
  · rintro σ' H' ⟨v3, v2, rfl, e1, hp⟩
    have hn : st.touches.drop (if (tt.touches.length : Int) > st.touches.length then (tt.touches.length : Int) else st.touches.length).toNat = [] ∧ tt.touches.drop (if (tt.touches.length : Int) > st.touches.length then (tt.touches.length : Int) else st.touches.length).toNat = [] := by
      constructor
      · apply List.drop_eq_nil_iff.mpr
        split <;> omega
      · apply List.drop_eq_nil_iff.mpr
        split <;> omega
    rw [hn.1, hn.2] at hp
    refine sd_ret (K := K) (d := .int (partB st tt)) (ed_is (ed_min2 (eda_cons (ed_ixT (ed_var (i := 0) rfl (h1.ex e1)) (ed_int (i := 0)) rfl) (eda_cons (ed_ixT (ed_var (i := 1) rfl (h2.ex e1)) (ed_int (i := 0)) rfl) eda_nil))) ?_) fun w H3 e4 => k w H3 (e1.trans e4)
    rw [← hp]
    rfl
end
end LW
namespace LW
open PySem PySem.Spec PyProof.Rows L2 Evl
open LB (Deed Lf P Hd S Mk Co Ev StOk)
theorem atI_last {α : Type} (l : List α) : atI l (-1) = l.getLast? := by
  unfold atI ixN
  rw [if_neg (by decide)]
  cases l with
  | nil => rfl
  | cons a r =>
    rw [if_pos (by simp only [List.length_cons]; omega), List.getLast?_eq_getElem?]
    show (a :: r)[(-1 + ((r.length + 1 : Nat) : Int)).toNat]? = (a :: r)[r.length + 1 - 1]?
    rw [show (-1 + ((r.length + 1 : Nat) : Int)).toNat = r.length + 1 - 1 by omega]
def fstIs (b : Int) : PyData → Bool
  | .tuple [_, .int i] => decide (i ≤ b)
  | _ => false
theorem met_filter (met : List (List Nat × Int)) (b : Int) : ((met.map metD).filter (fstIs b)).map fstD = (met.filter fun e => decide (e.2 ≤ b)).map fun e => pathD e.1 := by
  rw [List.filter_map, List.map_map]
  rfl
section
variable {Pg : Program} {w : World} {K : PySem.W.Frag} {mg : Str → Option Value} {base : Heap} {dF dB aSt aOt aMm C TL : Addr}
abbrev s_path_at : Stmt := top 61
theorem sc_path_at : FnScope ["going", "beat", "found", "path", "ahead"] ["going", "beat"] (defScope s_path_at) := ⟨rfl, rfl, rfl, by decide +kernel, rfl, by decide +kernel, by decide +kernel⟩
def spPath (K : PySem.W.Frag) (C : Addr) : Sp := fun vs H Q _ => vs.length = 2 ∧ ∃ a b d m s z, vs = [.ref a, .int b] ∧ GoAt K C H a d m s z ∧ s.met.length ≤ 90000 ∧ ∀ v H', Ex H H' → Dp K H' v (lastAt s.met b) → Q v H'
theorem c_path_at (D : Df K mg "path_at" s_path_at ["going", "beat"]) (T : Txt K mg w dF dB aSt aOt aMm) (c : GoC K C) : Cl Pg w K mg base 1 "path_at" (spPath K C) := by
  refine D.cl sc_path_at (fun vs H Q E h => h.1) (fun f cdv A outer s H vs Q E hr h => ?_)
  refine ⟨_, (pss_cons (ps_setLc (i := 2) (own := [("path", 3), ("ahead", 4)]) (g := (gTup K 2 (gCons (gName 3) (gCons (gName 4) gNil)))) (by rfl) sc_path_at.nd rfl rfl (sw_true rfl rfl rfl (by decide +kernel)) (pi_list (pe_fld (pv 0) rfl)) (blkOk_by (own := [("path", 3), ("ahead", 4)]) (N := ["going", "beat", "found", "path", "ahead"]) (sc := defScope s_path_at) (by decide +kernel)) (fun _ _ _ _ _ => (pg_tup rfl (pgs_cons (pg_name (i := 3) sc_path_at.nd rfl (Or.inl rfl)) (pgs_cons (pg_name (i := 4) sc_path_at.nd rfl (Or.inl rfl)) pgs_nil)))) (fun _ _ _ _ _ => (pts_one (pt_cmpR op_le (pv 4) (pv 1) (nomark _)))) (fun _ _ _ _ _ => (pv 3)))
    (pss_one (ps_ret (pe_ifExp (pt_cmpR (op_neD hr.units) (pv 2) (pe_lst pa_nil) (nomark _)) (pe_ix ix_list (pv 2) (pe_un un_neg pe_int) (fun _ _ => rfl)) pe_non))))
    , ?_⟩
  obtain ⟨_, a, b, d, m, st, z, rfl, G, hm, k⟩ := h
  obtain ⟨xm, hm1, hm2⟩ := G.mt
  have hlc := edl_lc (K := K) (g := gTup K 2 (gCons (gName 3) (gCons (gName 4) gNil))) (tt := tTest (tOp (rI0 fun i j => .bl (decide (i ≤ j))) (tVar 4) (tVar 1))) (vs := [3, 4]) (te := tVar 3) (fstIs b) fstD (it_lst (σ := start ["going", "beat", "found", "path", "ahead"] [.ref a, .int b]) (ed_ev (f_met (i := 0) G c rfl) (.lst (sq_of hm1) hm2))) (by rw [List.length_map]; omega) (fun d hd _ => by
    obtain ⟨e, _, rfl⟩ := List.mem_map.mp hd
    exact tdat_path e.1) (fun i d v H3 e3 hi hd => by
    have hmm := List.mem_of_getElem? hi
    obtain ⟨e, _, rfl⟩ := List.mem_map.mp hmm
    obtain ⟨p1, p2, q1, q2, ht⟩ := tk_two (i := 3) (j := 4) hd (wipe (start ["going", "beat", "found", "path", "ahead"] [.ref a, .int b]) [3, 4])
    exact ⟨_, ht, rfl, et_d (ed_le (ed_var (i := 4) rfl q2) (ed_var (i := 1) rfl (.int b))), fun _ => ed_var (i := 3) rfl q1⟩)
  rw [met_filter] at hlc
  refine qd_asgL (K := K) hlc fun l xs H1 hl e1 hx hxs => ?_
  have hL : ∀ {σ : L2.St} {H2 : Hp}, σ[2]? = some (some (.ref l)) → Ex H1 H2 → ED K (tVar 2) σ H2 (.list ((st.met.filter fun e => decide (e.2 ≤ b)).map fun e => pathD e.1)) := fun hσ e => ed_var hσ (.lst (sq_of (e _ _ hx)) (hxs.ex e))
  refine sd_ret (K := K) (d := lastAt st.met b) (ed_if (et_d (ed_neD (hL rfl (Ex.refl H1)) (ed_ofL (edl_lst eda_nil (Nat.zero_le _))) ((sh_lst (n := 1) (all_map fun e _ => sh_path e.1)).shaped) ((sh_lst (n := 0) all_nil).shaped))) (fun hb => ?_) (fun hb => ?_)) fun v H2 e2 => k v H2 (e1.trans e2)
  · rw [eqv_nil] at hb
    cases hg : (st.met.filter fun e => decide (e.2 ≤ b)).getLast? with
    | none => rw [List.getLast?_eq_none_iff.mp hg] at hb; cases hb
    | some e =>
      refine ed_ixL (hL rfl (Ex.refl H1)) (ed_neg (ed_int (i := 1))) ?_
      show atI _ (-1) = _
      rw [atI_last, List.getLast?_map, hg]
      unfold lastAt
      rw [hg]
      rfl
  · rw [eqv_nil] at hb
    have h0 : (st.met.filter fun e => decide (e.2 ≤ b)) = [] := by
      cases e : st.met.filter fun e => decide (e.2 ≤ b) with
      | nil => rfl
      | cons a r => rw [e] at hb; cases hb
    unfold lastAt
    rw [h0]
    exact ed_non
theorem qd_par {σ : L2.St} {H : Hp} {tr : TA} {i j : Nat} {d1 d2 : PyData} {tz : TS} {D : Ends} (h : EDA K tr σ H [d1, d2]) (k : ∀ v u H1, Ex H H1 → Dp K H1 v d1 → Dp K H1 u d2 → tz D ((σ.set i (some v)).set j (some u)) H1) : tSeq (tPar i j tr) tz D σ H := h H (Ex.refl H) _ fun vs H1 e1 hvs => by
  obtain ⟨x, y, rfl, h1, h2⟩ := dps2 hvs
  exact ⟨x, y, rfl, k x y H1 e1 h1 h2⟩
theorem ed_path {σ : L2.St} {H : Hp} {te tb : TE} {E : XK} {a : Addr} {d : Ad} {m : Mk} {s : S} {z : Nat} {b : Int} (h : Ev te σ H (.ref a)) (hb : ED K tb σ H (.int b)) (G : GoAt K C H a d m s z) (hm : s.met.length ≤ 90000) : ED K (tCall (spPath K C) [] E (tCons te (tCons tb tNil))) σ H (lastAt s.met b) := fun H1 e Q q =>
  h H1 e _ fun H2 e2 => hb H2 (e.trans e2) _ fun y H3 e3 hy => by
    obtain rfl := dp_int hy
    exact ⟨rfl, a, b, d, m, s, z, rfl, G.ex ((e.trans e2).trans e3), hm, fun v H4 e4 hv => q v H4 ((e2.trans e3).trans e4) hv⟩
abbrev s_parted : Stmt := top 62
theorem sc_parted : FnScope ["program", "make", "one", "other", "goings", "mine", "yours", "beat"] ["program", "make", "one", "other"] (defScope s_parted) := ⟨rfl, rfl, rfl, by decide +kernel, rfl, by decide +kernel, by decide +kernel⟩
theorem c_parted (D : Df K mg "parted" s_parted ["program", "make", "one", "other"]) (T : Txt K mg w dF dB aSt aOt aMm) (c_two_gone : Cl Pg w K mg base 32 "two_gone" (spTwo K C)) (c_seen_of : Cl Pg w K mg base 2 "seen_of" (spSeen K C)) (c_beat_parted : Cl Pg w K mg base 1 "beat_parted" (spD K 2 R_beat_parted)) (c_path_at : Cl Pg w K mg base 1 "path_at" (spPath K C)) :
    Cl Pg w K mg base 33 "parted" (spD K 4 (R_two partedD)) := by
  refine D.cl sc_parted (fun vs H Q E h => h.1) (fun f cdv A outer s H vs Q E hr h => ?_)
  refine ⟨_, (pss_cons (ps_set (i := 4) sc_parted.nd rfl (Or.inl rfl) (pe_u c_two_gone hr (by omega) rfl (pa_cons (pv 0) (pa_cons (pv 1) (pa_cons (pv 2) (pa_cons (pv 3) pa_nil))))))
    (pss_cons (ps_par (i := 5) (j := 6) (by rfl) sc_parted.nd rfl rfl (by decide) rfl rfl (pa_cons (pe_u c_seen_of hr (by omega) rfl (pa_cons (pe_ix ix_list (pv 4) pe_int (fun _ _ => rfl)) pa_nil)) (pa_cons (pe_u c_seen_of hr (by omega) rfl (pa_cons (pe_ix ix_list (pv 4) pe_int (fun _ _ => rfl)) pa_nil)) pa_nil)) (by rfl))
    (pss_cons (ps_if (pt_cmpR (op_eqD hr.units) (pv 5) (pv 6) (nomark _)) (pss_one (ps_ret pe_non)) pss_nil)
    (pss_cons (ps_set (i := 7) sc_parted.nd rfl (Or.inl rfl) (pe_u c_beat_parted hr (by omega) rfl (pa_cons (pv 5) (pa_cons (pv 6) pa_nil))))
    (pss_one (ps_ret (pe_tup (pa_cons (pv 7) (pa_cons (pe_u c_path_at hr (by omega) rfl (pa_cons (pe_ix ix_list (pv 4) pe_int (fun _ _ => rfl)) (pa_cons (pv 7) pa_nil))) (pa_cons (pe_u c_path_at hr (by omega) rfl (pa_cons (pe_ix ix_list (pv 4) pe_int (fun _ _ => rfl)) (pa_cons (pv 7) pa_nil))) pa_nil))))))))))
    , ?_⟩
  obtain ⟨_, ds, d, hds, ⟨p, m, v1, v2, rfl, R1, R2, m1, m2, rfl⟩, k⟩ := h
  obtain ⟨x, y, z, u, rfl, h1, h2, h3, h4⟩ := dps4 hds
  have so : ∀ v, RunOk p m v → StOk (runX m p v) := fun v R => (stOk_init R.good).sem ops R.mkk R.ok [] 0
  have ml : ∀ v, RunOk p m v → many m p v ≤ 20000 → (runX m p v).met.length ≤ 20000 := fun v R h => by rw [LB.runS_len]; exact h
  have tl : ∀ v, RunOk p m v → many m p v ≤ 20000 → (runX m p v).touches.length ≤ 90000 := fun v R h => by have a := (so v R).tch; have b := ml v R h; omega
  refine q_two (K := K) (eda_cons (ed_var (i := 0) rfl h1) (eda_cons (ed_var (i := 1) rfl h2) (eda_cons (ed_var (i := 2) rfl h3) (eda_cons (ed_var (i := 3) rfl h4) eda_nil)))) R1 R2 m1 m2 fun q a1 d1 a2 d2 H1 hq e1 hl G1 G2 => ?_
  have ee : ∀ {σ : L2.St} {H2 : Hp}, σ[4]? = some (some (.ref q)) → Ex H1 H2 → Ev (tOp (rIxL K) (tVar 4) (tC (.int 0))) σ H2 (.ref a1) ∧ Ev (tOp (rIxL K) (tVar 4) (tC (.int 1))) σ H2 (.ref a2) := fun hσ e => ev_go (tb := tVar 4) (ev_var hσ) (e _ _ hl)
  have S1 : ∀ {σ : L2.St} {H2 : Hp}, σ[4]? = some (some (.ref q)) → Ex H1 H2 → ED K (tCall (spSeen K C) [] E0 (tCons (tOp (rIxL K) (tVar 4) (tC (.int 0))) tNil)) σ H2 (seenD (runX m p v1)) := fun hσ e => ed_seen (ee hσ e).1 (G1.ex e) (run_tabs R1)
  have S2 : ∀ {σ : L2.St} {H2 : Hp}, σ[4]? = some (some (.ref q)) → Ex H1 H2 → ED K (tCall (spSeen K C) [] E0 (tCons (tOp (rIxL K) (tVar 4) (tC (.int 1))) tNil)) σ H2 (seenD (runX m p v2)) := fun hσ e => ed_seen (ee hσ e).2 (G2.ex e) (run_tabs R2)
  have hpr := eda_cons (S1 (σ := [some x, some y, some z, some u, some (.ref q), none, none, none]) rfl (Ex.refl H1)) (eda_cons (S2 rfl (Ex.refl H1)) eda_nil)
  refine qd_par (i := 5) (j := 6) hpr fun my yo H2 e2 hmy hyo => ?_
  have e02 := e1.trans e2
  have hif : EvT (tTest (tOp (rEqD K) (tVar 5) (tVar 6))) [some x, some y, some z, some u, some (.ref q), some my, some yo, none] H2 (likeS (runX m p v1) (runX m p v2)) := et_is (et_d (ed_eqD (ed_var (i := 5) rfl hmy) (ed_var (i := 6) rfl hyo) ((sh_seen _).shaped) ((sh_seen _).shaped))) (eqv_seen _ _)
  cases hl2 : likeS (runX m p v1) (runX m p v2) with
  | true =>
    refine q_yes hif hl2 fun H3 e3 => sd_ret (K := K) (d := partedD (runX m p v1) (runX m p v2)) (ed_is ed_non ?_) fun v H4 e4 => k v H4 ((e02.trans e3).trans e4)
    unfold partedD
    rw [if_pos hl2]
  | false =>
    refine q_not hif hl2 fun H3 e3 => ?_
    refine qd_asg (K := K) (ed_call (K := K) (eda_cons (ed_var (i := 5) rfl (hmy.ex e3)) (eda_cons (ed_var (i := 6) rfl (hyo.ex e3)) eda_nil)) ⟨_, _, rfl, tl v1 R1 m1, tl v2 R2 m2, rfl⟩) fun vb H4 e4 hvb => ?_
    obtain rfl := dp_int hvb
    have e14 := (e2.trans e3).trans e4
    refine sd_ret (K := K) (d := partedD (runX m p v1) (runX m p v2)) (ed_is (ed_tup (eda_cons (ed_var (i := 7) rfl (.int _)) (eda_cons (ed_path (ee rfl e14).1 (ed_var (i := 7) rfl (.int _)) (G1.ex e14) (by have := ml v1 R1 m1; omega)) (eda_cons (ed_path (ee rfl e14).2 (ed_var (i := 7) rfl (.int _)) (G2.ex e14) (by have := ml v2 R2 m2; omega)) eda_nil))) (Nat.le_of_ble_eq_true rfl)) ?_) fun v H5 e5 => k v H5 ((e1.trans e14).trans e5)
    unfold partedD
    rw [if_neg (by rw [hl2]; decide)]
abbrev s_uneven : Stmt := top 63
theorem sc_uneven : FnScope ["program", "make", "world", "hidden", "some", "rows", "one", "found", "seen"] ["program", "make", "world", "hidden"] (defScope s_uneven) := ⟨rfl, rfl, rfl, by decide +kernel, rfl, by decide +kernel, by decide +kernel⟩
/-- the words of a data row -/
def unI : List PyData → List Int
  | .int i :: r => i :: unI r
  | _ :: r => unI r
  | [] => []
theorem unI_map : ∀ l : List Int, unI (l.map PyData.int) = l
  | [] => rfl
  | i :: l => congrArg (i :: ·) (unI_map l)
/-- what is seen of a run on the world that a datum tells -/
def seenW (m : Mk) (p : P) (tabs : List (List Int)) : PyData → PyData
  | .tuple (.tuple xs :: _) => seenD (runX m p (unI xs, tabs))
  | d => d
def atW (bx : List Int) (tabs : List (List Int)) (b k : Nat) : W2 := (bx.set b (k : Nat), tabs)
def unevenD (p : P) (m : Mk) (bx : List Int) (tabs : List (List Int)) (b : Nat) : PyData :=
  match (List.range 16).filter fun k => !likeS (runX m p (atW bx tabs b k)) (runX m p (atW bx tabs b 0)) with
  | [] => .none
  | k :: _ => .tuple [wD (atW bx tabs b 0), wD (atW bx tabs b k)]
def R_uneven (ds : List PyData) (d : PyData) : Prop := ∃ (p : P) (m : Mk) (bx : List Int) (tabs : List (List Int)) (b : Nat), ds = [.tuple (progD p), makeD m, worldD bx tabs, hidD b] ∧ RunOk p m (bx, tabs) ∧ b < 32 ∧ (∀ k, k < 16 → many m p (atW bx tabs b k) ≤ 20000) ∧ d = unevenD p m bx tabs b
theorem at_ok {p : P} {m : Mk} {bx : List Int} {tabs : List (List Int)} {b k : Nat} (R : RunOk p m (bx, tabs)) (hk : k < 16) : RunOk p m (atW bx tabs b k) := ⟨R.ok, R.size, R.mkk, ⟨by show (bx.set b _).length = 32; rw [List.length_set]; exact R.good.n, LB.wd_set R.good.w b ⟨by omega, by omega⟩, R.good.tn, R.good.tw⟩⟩
def unlike (z : PyData) : PyData → Bool
  | .tuple [_, s] => !PyData.eqv s z
  | _ => false
theorem c_uneven (D : Df K mg "uneven" s_uneven ["program", "make", "world", "hidden"]) (T : Txt K mg w dF dB aSt aOt aMm) (c_need_run : Cl Pg w K mg base 6 "need_run" (spD K 3 R_need_run)) (c_worlds_of : Cl Pg w K mg base 6 "worlds_of" (spDL K 2 R_worlds_of)) (c_gone : Cl Pg w K mg base 31 "gone" (spGone K C TL)) (c_seen_of : Cl Pg w K mg base 2 "seen_of" (spSeen K C)) :
    Cl Pg w K mg base 32 "uneven" (spD K 4 R_uneven) := by
  refine D.cl sc_uneven (fun vs H Q E h => h.1) (fun f cdv A outer s H vs Q E hr h => ?_)
  refine ⟨_, (pss_cons (ps_expr (pe_u c_need_run hr (by omega) rfl (pa_cons (pv 0) (pa_cons (pv 1) (pa_cons (pv 2) pa_nil)))))
    (pss_cons (ps_set (i := 4) sc_uneven.nd rfl (Or.inl rfl) (pe_u c_worlds_of hr (by omega) rfl (pa_cons (pv 2) (pa_cons (pv 3) pa_nil))))
    (pss_cons (ps_set (i := 5) sc_uneven.nd rfl (Or.inr rfl) (pe_lc (own := [("one", 6)]) (g := (gName 6)) (tt := tYes) (by rfl) sc_uneven.nd (pi_list (pv 4)) (blkOk_by (own := [("one", 6)]) (N := ["program", "make", "world", "hidden", "some", "rows", "one", "found", "seen"]) (sc := defScope s_uneven) (by decide +kernel)) (fun _ _ _ _ _ => (pg_name (i := 6) sc_uneven.nd rfl (Or.inl rfl))) (fun _ _ _ _ _ => pts_nil) (fun _ _ _ _ _ => (pe_u c_seen_of hr (by omega) rfl (pa_cons (pe_u c_gone hr (by omega) rfl (pa_cons (pv 0) (pa_cons (pv 1) (pa_cons (pv 6) pa_nil)))) pa_nil)))))
    (pss_cons (ps_setLc (i := 7) (own := [("one", 6), ("seen", 8)]) (g := (gTup K 2 (gCons (gName 6) (gCons (gName 8) gNil)))) (by rfl) sc_uneven.nd rfl rfl (sw_true rfl rfl rfl (by decide +kernel)) (RZ.pi_zipA rfl T.n_zip (pa_cons (pv 4) (pa_cons (pv 5) pa_nil))) (blkOk_by (own := [("one", 6), ("seen", 8)]) (N := ["program", "make", "world", "hidden", "some", "rows", "one", "found", "seen"]) (sc := defScope s_uneven) (by decide +kernel)) (fun _ _ _ _ _ => (pg_tup rfl (pgs_cons (pg_name (i := 6) sc_uneven.nd rfl (Or.inl rfl)) (pgs_cons (pg_name (i := 8) sc_uneven.nd rfl (Or.inl rfl)) pgs_nil)))) (fun _ _ _ _ _ => (pts_one (pt_cmpR (op_neDK K hr) (pv 8) (pe_ix (ix_listK K) (pv 5) pe_int (fun _ _ => rfl)) (nomark _)))) (fun _ _ _ _ _ => (pv 6)))
    (pss_one (ps_ret (pe_ifExp (pt_cmpR (op_neD hr.units) (pv 7) (pe_lst pa_nil) (nomark _)) (pe_tup (pa_cons (pe_ix ix_list (pv 4) pe_int (fun _ _ => rfl)) (pa_cons (pe_ix ix_list (pv 7) pe_int (fun _ _ => rfl)) pa_nil))) pe_non)))))))
    , ?_⟩
  obtain ⟨_, ds, d, hds, ⟨p, m, bx, tabs, b, rfl, R, hb, hm, rfl⟩, k⟩ := h
  obtain ⟨x, y, z, u, rfl, h1, h2, h3, h4⟩ := dps4 hds
  refine qd_drop (ed_call (K := K) (eda_cons (ed_var rfl h1) (eda_cons (ed_var rfl h2) (eda_cons (ed_var rfl h3) eda_nil))) ⟨p, m, (bx, tabs), rfl, R, rfl⟩) fun H1 e1 => ?_
  refine qd_asgL (K := K) (edl_call (eda_cons (ed_var (i := 2) rfl (h3.ex e1)) (eda_cons (ed_var (i := 3) rfl (h4.ex e1)) eda_nil)) ⟨bx, tabs, b, rfl, R.good, hb, rfl⟩) fun l xs H2 hl e2 hx hxs => ?_
  have e02 := e1.trans e2
  have hsm : ∀ {σ : L2.St} {H3 : Hp}, σ[4]? = some (some (.ref l)) → Ex H2 H3 → ED K (tVar 4) σ H3 (.list (hidRows bx tabs b)) := fun hσ e => ed_var hσ (.lst (sq_of (e _ _ hx)) (hxs.ex e))
  have hlc := edl_lc (K := K) (g := gName 6) (tt := tYes) (vs := [6]) (te := tCall (spSeen K C) [] E0 (tCons (tCall (spGone K C TL) [] E0 (tCons (tVar 0) (tCons (tVar 1) (tCons (tVar 6) tNil)))) tNil)) (fun _ => true) (seenW m p tabs) (it_lst (σ := [some x, some y, some z, some u, some (.ref l), none, none, none, none]) (hsm rfl (Ex.refl H2))) (by unfold hidRows; simp) (fun d hd _ => by
      obtain ⟨j, _, rfl⟩ := List.mem_map.mp hd
      exact tdat_seen _) (fun i d v H3 e3 hi hd => by
      have hmm := List.mem_of_getElem? hi
      obtain ⟨j, hj, rfl⟩ := List.mem_map.mp hmm
      have hj16 : j < 16 := by simpa using hj
      refine ⟨_, tk_one _, rfl, et_yes, fun _ => fun H4 e4 Q' q => ?_⟩
      have e04 := (e02.trans e3).trans e4
      have hwd : Dp K H3 v (wD (atW bx tabs b j)) := hd
      refine q_gone (K := K) (C := C) (TL := TL) (eda_cons (ed_var (i := 0) rfl (h1.ex e04)) (eda_cons (ed_var (i := 1) rfl (h2.ex e04)) (eda_cons (ed_var (i := 6) rfl (hwd.ex e4)) eda_nil))) (at_ok R hj16) (fun _ a d H5 e5 G ow => ?_) fun h => by have := hm j hj16; omega
      have hw : seenW m p tabs (worldD (bx.set b (j : Nat)) tabs) = seenD (runX m p (atW bx tabs b j)) := by
        show seenD (runX m p (unI ((bx.set b (j : Nat)).map PyData.int), tabs)) = _
        rw [unI_map]
        rfl
      rw [hw] at q
      exact ⟨rfl, a, d, m, _, _, rfl, G, run_tabs (at_ok R hj16), fun v' H6 e6 hv' => q v' H6 (e5.trans e6) hv'⟩)
  rw [List.filter_eq_self.mpr (fun _ _ => rfl)] at hlc
  refine qd_asgL (K := K) hlc fun l2 ys H3 hl2 e3 hy hys => ?_
  have hrows : (hidRows bx tabs b).map (seenW m p tabs) = (List.range 16).map fun j => seenD (runX m p (atW bx tabs b j)) := by
    unfold hidRows
    rw [List.map_map]
    refine List.map_congr_left fun j _ => ?_
    show seenD (runX m p (unI ((bx.set b (j : Nat)).map PyData.int), tabs)) = _
    rw [unI_map]
    rfl
  rw [hrows] at hys
  have hrw : ∀ {σ : L2.St} {H4 : Hp}, σ[5]? = some (some (.ref l2)) → Ex H3 H4 → ED K (tVar 5) σ H4 (.list ((List.range 16).map fun j => seenD (runX m p (atW bx tabs b j)))) := fun hσ e => ed_var hσ (.lst (sq_of (e _ _ hy)) (hys.ex e))
  have pairs : pairD (hidRows bx tabs b) ((List.range 16).map fun j => seenD (runX m p (atW bx tabs b j))) = (List.range 16).map fun j => .tuple [wD (atW bx tabs b j), seenD (runX m p (atW bx tabs b j))] := rfl
  have hz := it_zipL (K := K) (σ := [some x, some y, some z, some u, some (.ref l), some (.ref l2), none, none, none]) (eda_cons (hsm rfl e3) (eda_cons (hrw rfl (Ex.refl H3)) eda_nil))
  rw [pairs] at hz
  have hfc := edl_lc (K := K) (g := gTup K 2 (gCons (gName 6) (gCons (gName 8) gNil))) (tt := tTest (tOp (rNeD K) (tVar 8) (tOp (rIxL K) (tVar 5) (tC (.int 0))))) (vs := [6, 8]) (te := tVar 6) (unlike (seenD (runX m p (atW bx tabs b 0)))) fstD hz (by simp) (fun d hd _ => by
      obtain ⟨j, _, rfl⟩ := List.mem_map.mp hd
      exact tdat_world _ _) (fun i d v H4 e4 hi hd => by
      have hmm := List.mem_of_getElem? hi
      obtain ⟨j, hj, rfl⟩ := List.mem_map.mp hmm
      obtain ⟨p1, p2, q1, q2, ht⟩ := tk_two (i := 6) (j := 8) hd (wipe [some x, some y, some z, some u, some (.ref l), some (.ref l2), none, none, none] [6, 8])
      exact ⟨_, ht, rfl, et_d (ed_neD (ed_var (i := 8) rfl q2) (ed_ixL (hrw rfl e4) (ed_int (i := 0)) rfl) ((sh_seen _).shaped) ((sh_seen _).shaped)), fun _ => ed_var (i := 6) rfl q1⟩)
  have hfound : (((List.range 16).map fun j => PyData.tuple [wD (atW bx tabs b j), seenD (runX m p (atW bx tabs b j))]).filter (unlike (seenD (runX m p (atW bx tabs b 0))))).map fstD = ((List.range 16).filter fun j => !likeS (runX m p (atW bx tabs b j)) (runX m p (atW bx tabs b 0))).map fun j => wD (atW bx tabs b j) := by
    rw [List.filter_map, List.map_map]
    have hc : (unlike (seenD (runX m p (atW bx tabs b 0))) ∘ fun j => PyData.tuple [wD (atW bx tabs b j), seenD (runX m p (atW bx tabs b j))]) = fun j => !likeS (runX m p (atW bx tabs b j)) (runX m p (atW bx tabs b 0)) := funext fun j => by
      show (!PyData.eqv (seenD _) (seenD _)) = _
      rw [eqv_seen]
    rw [hc]
    rfl
  rw [hfound] at hfc
  refine qd_asgL (K := K) hfc fun l3 zs H4 hl3 e4 hz4 hzs => ?_
  have e04 := (e02.trans e3).trans e4
  have hfd : ∀ {σ : L2.St} {H5 : Hp}, σ[7]? = some (some (.ref l3)) → Ex H4 H5 → ED K (tVar 7) σ H5 (.list (((List.range 16).filter fun j => !likeS (runX m p (atW bx tabs b j)) (runX m p (atW bx tabs b 0))).map fun j => wD (atW bx tabs b j))) := fun hσ e => ed_var hσ (.lst (sq_of (e _ _ hz4)) (hzs.ex e))
  have shw : ∀ v : W2, Sh 3 (wD v) := fun v => sh_tup (all_cons (sh_tup (sh_ints _)) (all_cons (sh_tup (all_map fun t _ => sh_tup (sh_ints t))) all_nil))
  refine sd_ret (K := K) (d := unevenD p m bx tabs b) (ed_if (et_d (ed_neD (hfd rfl (Ex.refl H4)) (ed_ofL (edl_lst eda_nil (Nat.zero_le _))) ((sh_lst (n := 3) (all_map fun e _ => shw _)).shaped) ((sh_lst (n := 0) all_nil).shaped))) (fun hb => ?_) (fun hb => ?_)) fun v H5 e5 => k v H5 (e04.trans e5)
  · rw [eqv_nil] at hb
    unfold unevenD
    cases hg : (List.range 16).filter fun j => !likeS (runX m p (atW bx tabs b j)) (runX m p (atW bx tabs b 0)) with
    | nil => rw [hg] at hb; cases hb
    | cons j r =>
      rw [hg] at hfd
      exact ed_tup (eda_cons (ed_ixL (hsm rfl (e3.trans e4)) (ed_int (i := 0)) rfl) (eda_cons (ed_ixL (hfd rfl (Ex.refl H4)) (ed_int (i := 0)) (atI_nat (j := 0) rfl)) eda_nil)) (Nat.le_of_ble_eq_true rfl)
  · rw [eqv_nil] at hb
    unfold unevenD
    cases hg : (List.range 16).filter fun j => !likeS (runX m p (atW bx tabs b j)) (runX m p (atW bx tabs b 0)) with
    | nil => exact ed_non
    | cons j r => rw [hg] at hb; cases hb
end
end LW
namespace LW
open PySem PySem.Spec PyProof.Rows L2 Evl
open LB (Deed Lf P Hd S Mk Co Ev StOk)
/-! ### frames over some addresses -/
section
variable {K : PySem.W.Frag} {H H1 H2 : Hp} {own : List Addr}
theorem Fr.refl (own : List Addr) (H : Hp) : Fr own H H := fun _ _ h _ => h
theorem Fr.trans (x : Fr own H H1) (y : Fr own H1 H2) : Fr own H H2 := fun b o h n => y b o (x b o h n) n
theorem Fr.ex (e : Ex H H1) : Fr own H H1 := fun b o h _ => e b o h
theorem Fr.mono {own' : List Addr} (x : Fr own H H1) (h : ∀ b ∈ own, b ∈ own') : Fr own' H H1 := fun b o e n => x b o e fun m => n (h b m)
theorem Fr.mut {a : Addr} {o : HO} (h : a ∈ own) : Fr own H (upd H a o) := fun b u e n => by
  have hb : b ≠ a := fun q => n (by rw [q]; exact h)
  rw [upd_ne hb]
  exact e
theorem Fr.tx (x : Fr own H H1) (h : ∀ b ∈ own, NoT (H b)) : Tx H H1 := fun b xs q => by
  have nb : b ∉ own := fun hm => by
    obtain ⟨n1, n2⟩ := h b hm xs
    rcases q with q | ⟨u, q⟩
    · exact n1 q
    · exact n2 u q
  rcases q with q | ⟨u, q⟩
  · exact .inl (x b _ q nb)
  · exact .inr ⟨u, x b _ q nb⟩
theorem Fr.toEx {H0 : Hp} (x : Fr own H H1) (e : Ex H0 H) (n : ∀ b ∈ own, H0 b = none) : Ex H0 H1 := fun b o h => x b o (e b o h) fun hm => by rw [n b hm] at h; cases h
/-- the script, apart from what may change -/
def Scr (K : PySem.W.Frag) (H : Hp) (own : List Addr) (a : Addr) (xs : List V) : Prop :=
  (Rd H a (.lst xs) ∧ a ∉ own) ∨ (∃ (o : Obj) (its : Array Value) (n : Nat), K.lookup a = some o ∧ o.cls = .type "list" ∧ o.dict = none ∧ o.data = .seq its n ∧ its.size ≤ sizeLine ∧ Vals xs its.toList)
theorem Scr.sq {a : Addr} {xs : List V} (h : Scr K H own a xs) : SqL K H a xs := h.elim (fun h => .inl h.1) .inr
theorem Scr.fr {a : Addr} {xs : List V} (h : Scr K H own a xs) (f : Fr own H H1) : Scr K H1 own a xs := by
  rcases h with ⟨h, n⟩ | h
  · refine .inl ⟨?_, n⟩
    rcases h with h | ⟨u, h⟩
    · exact .inl (f _ _ h n)
    · exact .inr ⟨u, f _ _ h n⟩
  · exact .inr h
theorem Scr.sub {own' : List Addr} {a : Addr} {xs : List V} (h : Scr K H own a xs) (s : ∀ b ∈ own', b ∈ own) : Scr K H own' a xs := h.elim (fun h => .inl ⟨h.1, fun m => h.2 (s a m)⟩) .inr
theorem Scr.new {a : Addr} {xs : List V} (h : SqL K H a xs) (n : ∀ b ∈ own, H b = none) : Scr K H own a xs := by
  rcases h with h | h
  · refine .inl ⟨h, fun m => ?_⟩
    have := n a m
    rcases h with h | ⟨u, h⟩ <;> rw [this] at h <;> cases h
  · exact .inr h
theorem Scr.dp {a : Addr} {ns : List Int} (h : Scr K H own a (ns.map V.int)) : Dp K H (.ref a) (.list (ns.map PyData.int)) := .lst h.sq (ints_dps ns)
end
section
variable {K : PySem.W.Frag} {σ : L2.St} {H : Hp} {ta tb : TE}
theorem ed_mulW {i j : Int} (ha : ED K ta σ H (.int i)) (hb : ED K tb σ H (.int j)) (hc : CMulW i j) : ED K (tOp (rI CMulW fun i j => .int (i * j)) ta tb) σ H (.int (i * j)) := ed_op ha hb (rd_I hc)
theorem ed_fdivW {i j : Int} (ha : ED K ta σ H (.int i)) (hb : ED K tb σ H (.int j)) (hc : CDivW i j) : ED K (tOp (rI CDivW fun i j => .int (i / j)) ta tb) σ H (.int (i / j)) := ed_op ha hb (rd_I hc)
theorem ed_pow {i j : Int} (ha : ED K ta σ H (.int i)) (hb : ED K tb σ H (.int j)) (hc : CPow i j) : ED K (tOp (rI CPow fun i j => .int (i ^ j.toNat)) ta tb) σ H (.int (i ^ j.toNat)) := ed_op ha hb (rd_I hc)
end
/-- what stands behind, told once -/
theorem q_share {tu tz : TS} {D : Ends} {σ : L2.St} {H : Hp} (P : L2.St → Hp → Prop) (hP : ∀ σ' H', P σ' H' → tz D σ' H') (k : (∀ σ' H', P σ' H' → tz D σ' H') → tSeq tu tz D σ H) : tSeq tu tz D σ H := k hP
section
variable {Pg : Program} {w : World} {K : PySem.W.Frag} {mg : Str → Option Value} {base : Heap} {dF dB aSt aOt aMm C TL : Addr}
abbrev s_law_cell : Stmt := top 65
theorem sc_law_cell : FnScope ["_law_cells", "_law_spot", "_law_k", "_law_own", "_law_turn", "_law_prime", "_law_cell_here", "_law_times", "_law_number"] ["_law_cells", "_law_spot"] (defScope s_law_cell) := ⟨rfl, rfl, rfl, by decide +kernel, rfl, by decide +kernel, by decide +kernel⟩
def spCell (K : PySem.W.Frag) : Sp := fun vs H Q _ => vs.length = 2 ∧ ∃ (a sp : Addr) (ns : List Int) (k : Nat), vs = [.ref a, .ref sp] ∧ Scr K H [sp] a (ns.map V.int) ∧ ns.length ≤ 63 ∧ H sp = some (.lst [.int (k : Int)]) ∧ k ≤ 100000 ∧
  ∀ (r : Nat) H', r < 306783379 → Fr [sp] H H' → H' sp = some (.lst [.int ((k + 1 : Nat) : Int)]) → Q (.int (r : Int)) H'
theorem c_law_cell (D : Df K mg "_law_cell" s_law_cell ["_law_cells", "_law_spot"]) (T : Txt K mg w dF dB aSt aOt aMm) : Cl Pg w K mg base 1 "_law_cell" (spCell K) := by
  refine D.cl sc_law_cell (fun vs H Q E h => h.1) (fun f cdv A outer s H vs Q E hr h => ?_)
  refine ⟨_, (pss_cons (ps_asg (pe_op op_add (pe_ix ix_list (pv 1) pe_int (fun _ _ => rfl)) pe_int) (pg_sub (pv 1) pe_int set_list))
    (pss_cons (ps_set (i := 2) sc_law_cell.nd rfl (Or.inl rfl) (pe_ix ix_list (pv 1) pe_int (fun _ _ => rfl)))
    (pss_cons (ps_if (PW.pt (pw_and (pt_cmpR op_gt (pe_callB call_len_seq (by rfl) T.n_len (by decide +kernel) (pa_cons (pv 0) pa_nil)) pe_int (nomark _)) (pw_and (pt_cmpR op_ge (pe_ix ix_list (pv 0) (pe_op op_mod (pv 2) (pe_callB call_len_seq (by rfl) T.n_len (by decide +kernel) (pa_cons (pv 0) pa_nil))) (fun _ _ => rfl)) (pe_op op_pow pe_int pe_int) (nomark _)) (pw_and1 (pt_cmpR op_lt (pe_op op_fdiv (pv 2) (pe_callB call_len_seq (by rfl) T.n_len (by decide +kernel) (pa_cons (pv 0) pa_nil))) pe_int (nomark _)))))) (pss_cons (ps_set (i := 3) sc_law_cell.nd rfl (Or.inl rfl) (pe_ix ix_list (pv 0) (pe_op op_mod (pv 2) (pe_callB call_len_seq (by rfl) T.n_len (by decide +kernel) (pa_cons (pv 0) pa_nil))) (fun _ _ => rfl)))
    (pss_cons (ps_for PassesOwn.never rfl (pi_range1 rfl T.n_range (pa_cons (pe_op op_fdiv (pv 2) (pe_callB call_len_seq (by rfl) T.n_len (by decide +kernel) (pa_cons (pv 0) pa_nil))) pa_nil)) (pg_name (i := 4) sc_law_cell.nd rfl (Or.inl rfl))
    (pss_one (ps_set (i := 3) sc_law_cell.nd rfl (Or.inl rfl) (pe_op op_fdiv (pv 3) pe_int))))
    (pss_one (ps_if (pt_cmpR op_gt (pv 3) pe_int (nomark _)) (pss_one (ps_ret (pe_op op_mod (pv 3) pe_int))) pss_nil)))) pss_nil)
    (pss_cons (ps_set (i := 5) sc_law_cell.nd rfl (Or.inl rfl) pe_int)
    (pss_cons (ps_set (i := 6) sc_law_cell.nd rfl (Or.inl rfl) (pe_ifExp (pt_cmpR op_gt (pe_callB call_len_seq (by rfl) T.n_len (by decide +kernel) (pa_cons (pv 0) pa_nil)) pe_int (nomark _)) (pe_op op_mod (pe_ix ix_list (pv 0) (pe_op op_mod (pv 2) (pe_callB call_len_seq (by rfl) T.n_len (by decide +kernel) (pa_cons (pv 0) pa_nil))) (fun _ _ => rfl)) (pv 5)) pe_int))
    (pss_cons (ps_set (i := 7) sc_law_cell.nd rfl (Or.inl rfl) (pe_op op_add pe_int (pe_op op_mul (pe_op op_mul pe_int (pv 2)) (pv 2))))
    (pss_cons (ps_set (i := 8) sc_law_cell.nd rfl (Or.inl rfl) (pe_op op_mod (pe_op op_mulW (pe_op op_add (pe_op op_add (pv 6) (pe_op op_mul pe_int (pv 2))) pe_int) (pv 7)) (pv 5)))
    (pss_cons (ps_set (i := 8) sc_law_cell.nd rfl (Or.inl rfl) (pe_op op_mod (pe_op op_mulW (pv 8) (pe_op op_add (pv 8) pe_int)) (pv 5)))
    (pss_one (ps_ret (pe_op op_mod (pe_op op_fdivW (pv 8) pe_int) pe_int)))))))))))
    , ?_⟩
  obtain ⟨_, a, sp, ns, k, rfl, hsc, hns, hsp, hk, q⟩ := h
  have hspD : ∀ {H1 : Hp}, H1 sp = some (.lst [.int (k : Int)]) → Dp K H1 (.ref sp) (.list [.int (k : Int)]) := fun h => .lst (sq_of h) (ints_dps [(k : Int)])
  refine q_setL (l := sp) (xs := [.int (k : Int)]) (j := 0) (v := .int ((k : Int) + 1)) hsp (ev_edI (ed_add (K := K) (ed_ixL (ed_var (i := 1) rfl (hspD hsp)) (ed_int (i := 0)) rfl) (ed_int (i := 1)))) (ev_var rfl) ev_c (by show 0 < 1; decide) fun H1 e1 => ?_
  have fr2 : Fr [sp] H (upd H1 sp (.lst [.int ((k + 1 : Nat) : Int)])) := (Fr.ex e1).trans (Fr.mut (List.mem_singleton.mpr rfl))
  have hsp2 : upd H1 sp (.lst [.int ((k + 1 : Nat) : Int)]) sp = some (.lst [.int ((k + 1 : Nat) : Int)]) := upd_same
  have hset : upd H1 sp (.lst ([V.int (k : Int)].set 0 (.int ((k : Int) + 1)))) = upd H1 sp (.lst [.int ((k + 1 : Nat) : Int)]) := rfl
  rw [hset]
  generalize upd H1 sp (.lst [.int ((k + 1 : Nat) : Int)]) = H2 at fr2 hsp2
  have hsc2 := hsc.fr fr2
  have q2 : ∀ (r : Int) H', 0 ≤ r → r < 306783379 → Ex H2 H' → Q (.int r) H' := fun r H' h0 h1 e => by
    have := q r.toNat H' (by omega) (fr2.trans (Fr.ex e)) (e _ _ hsp2)
    rw [Int.toNat_of_nonneg h0] at this
    exact this
  refine qd_asg (K := K) (d := .int ((k + 1 : Nat) : Int)) (ed_ixL (ed_var (i := 1) rfl (.lst (sq_of hsp2) (ints_dps [((k + 1 : Nat) : Int)]))) (ed_int (i := 0)) rfl) fun v H3 e3 hv => ?_
  obtain rfl := dp_int hv
  have cellsD : ∀ {σ : L2.St} {H4 : Hp}, σ[0]? = some (some (.ref a)) → Ex H2 H4 → ED K (tVar 0) σ H4 (.list (ns.map PyData.int)) := fun hσ e => ed_var hσ ((hsc2.fr (Fr.ex e)).dp)
  have lenD : ∀ {σ : L2.St} {H4 : Hp}, σ[0]? = some (some (.ref a)) → Ex H2 H4 → ED K (tCB (rLenS K) (tCons (tVar 0) tNil)) σ H4 (.int (ns.length : Int)) := fun hσ e => ed_is (ed_lenL (cellsD hσ e)) (by rw [List.length_map])
  have itemD : ∀ {σ : L2.St} {H4 : Hp}, σ[0]? = some (some (.ref a)) → σ[2]? = some (some (.int ((k + 1 : Nat) : Int))) → Ex H2 H4 → 0 < ns.length → ED K (tOp (rIxL K) (tVar 0) (tOp (rI (fun _ j => 0 < j) fun i j => .int (i % j)) (tVar 2) (tCB (rLenS K) (tCons (tVar 0) tNil)))) σ H4 (.int (ns.getD ((k + 1) % ns.length) 0)) := fun hσ h2 e hl =>
    ed_ixL (cellsD hσ e) (ed_mod (ed_var h2 (.int _)) (lenD hσ e) (by omega)) (by
      have hlt : (k + 1) % ns.length < ns.length := Nat.mod_lt _ hl
      rw [← Int.natCast_emod]
      exact int_at hlt)
  refine q_share (fun σ' H' => ∃ v3 v4 : Option V, σ' = [some (.ref a), some (.ref sp), some (.int ((k + 1 : Nat) : Int)), v3, v4, none, none, none, none] ∧ Ex H2 H') ?_ fun rest => ?_
  · rintro σ' H4 ⟨v3, v4, rfl, e4⟩
    refine qd_asg (K := K) (ed_int (i := 170141183460469231731687303715884105727)) fun v5 H5 e5 hv5 => ?_
    obtain rfl := dp_int hv5
    have e25 := e4.trans e5
    obtain ⟨ch, hch, hch0, hch1⟩ : ∃ ch : Int, ED K (tIf (tTest (tOp (rI0 fun i j => .bl (decide (j < i))) (tCB (rLenS K) (tCons (tVar 0) tNil)) (tC (.int 0)))) (tOp (rI (fun _ j => 0 < j) fun i j => .int (i % j)) (tOp (rIxL K) (tVar 0) (tOp (rI (fun _ j => 0 < j) fun i j => .int (i % j)) (tVar 2) (tCB (rLenS K) (tCons (tVar 0) tNil)))) (tVar 5)) (tC (.int 5)))
        [some (.ref a), some (.ref sp), some (.int ((k + 1 : Nat) : Int)), v3, v4, some (.int 170141183460469231731687303715884105727), none, none, none] H5 (.int ch) ∧ 0 ≤ ch ∧ ch < 170141183460469231731687303715884105727 := by
      by_cases hl : 0 < ns.length
      · refine ⟨ns.getD ((k + 1) % ns.length) 0 % 170141183460469231731687303715884105727, ed_if (b := true) (et_is (et_d (ed_gt (lenD rfl e25) ed_int)) (decide_eq_true (by omega))) (fun _ => ed_mod (itemD rfl rfl e25 hl) (ed_var (i := 5) rfl (.int _)) (by decide)) (fun h => by cases h), Int.emod_nonneg _ (by decide), Int.emod_lt_of_pos _ (by decide)⟩
      · exact ⟨5, ed_if (b := false) (et_is (et_d (ed_gt (lenD rfl e25) ed_int)) (decide_eq_false (by omega))) (fun h => by cases h) (fun _ => ed_int), by decide, by decide⟩
    refine qd_asg hch fun v6 H6 e6 hv6 => ?_
    obtain rfl := dp_int hv6
    have hk1 : (k + 1 : Nat) ≤ 100001 := by omega
    refine qd_asg (K := K) (ed_add (ed_int (i := 91520834467120936671528473920164857)) (ed_mul (ed_mul (ed_int (i := 2)) (ed_var (i := 2) rfl (.int _)) (.inl ⟨by decide, by decide⟩)) (ed_var (i := 2) rfl (.int _)) (.inr ⟨by omega, by omega⟩))) fun v7 H7 e7 hv7 => ?_
    obtain rfl := dp_int hv7
    obtain ⟨tm, htm⟩ : ∃ tm : Int, tm = 91520834467120936671528473920164857 + 2 * ((k + 1 : Nat) : Int) * ((k + 1 : Nat) : Int) := ⟨_, rfl⟩
    have htm0 : 0 ≤ tm ∧ tm < 2 ^ 118 := by
      have h1 : 2 * ((k + 1 : Nat) : Int) * ((k + 1 : Nat) : Int) ≤ 2 * 100001 * 100001 := Int.mul_le_mul (by omega) (by omega) (by omega) (by omega)
      have h0 : 0 ≤ 2 * ((k + 1 : Nat) : Int) * ((k + 1 : Nat) : Int) := Int.mul_nonneg (by omega) (by omega)
      rw [htm]
      constructor
      · omega
      · have : (91520834467120936671528473920164857 : Int) + 2 * 100001 * 100001 < 2 ^ 118 := by decide
        omega
    rw [← htm]
    have hA : (ch + 7919 * ((k + 1 : Nat) : Int) + 11).natAbs < 2 ^ 128 := by
      have h2 : (170141183460469231731687303715884105727 : Int) + 7919 * 100001 + 11 < 2 ^ 128 := by decide
      have : ch + 7919 * ((k + 1 : Nat) : Int) + 11 < 2 ^ 128 := by omega
      omega
    refine qd_asg (K := K) (ed_mod (ed_mulW (ed_add (ed_add (ed_var (i := 6) rfl (.int _)) (ed_mul (ed_int (i := 7919)) (ed_var (i := 2) rfl (.int _)) (.inl ⟨by decide, by decide⟩))) (ed_int (i := 11))) (ed_var (i := 7) rfl (.int _)) (wide_mul hA (show tm.natAbs < 2 ^ 118 by omega) (by decide) (by decide) (by decide))) (ed_var (i := 5) rfl (.int _)) (by decide)) fun v8 H8 e8 hv8 => ?_
    obtain rfl := dp_int hv8
    obtain ⟨n1, hn1, hn10, hn11⟩ : ∃ n1 : Int, n1 = (ch + 7919 * ((k + 1 : Nat) : Int) + 11) * tm % 170141183460469231731687303715884105727 ∧ 0 ≤ n1 ∧ n1 < 170141183460469231731687303715884105727 := ⟨_, rfl, Int.emod_nonneg _ (by decide), Int.emod_lt_of_pos _ (by decide)⟩
    rw [← hn1]
    have hB : n1.natAbs < 2 ^ 127 := by
      have h2 : (170141183460469231731687303715884105727 : Int) < 2 ^ 127 := by decide
      omega
    have hC : (n1 + 58203947561830297465018273645019283).natAbs < 2 ^ 128 := by
      have h2 : (170141183460469231731687303715884105727 : Int) + 58203947561830297465018273645019283 < 2 ^ 128 := by decide
      omega
    refine qd_asg (K := K) (ed_mod (ed_mulW (ed_var (i := 8) rfl (.int _)) (ed_add (ed_var (i := 8) rfl (.int _)) (ed_int (i := 58203947561830297465018273645019283))) (wide_mul hB hC (by decide) (by decide) (by decide))) (ed_var (i := 5) rfl (.int _)) (by decide)) fun v9 H9 e9 hv9 => ?_
    obtain rfl := dp_int hv9
    refine sd_ret (K := K) (ed_mod (ed_fdivW (ed_var (i := 8) rfl (.int _)) (ed_int (i := 18446744073709551616)) (wide_div (b := 70) (by decide) (by decide) (by decide) (by decide))) (ed_int (i := 306783379)) (by decide)) fun v10 H10 e10 hv10 => ?_
    obtain rfl := dp_int hv10
    exact q2 _ H10 (Int.emod_nonneg _ (by decide)) (Int.emod_lt_of_pos _ (by decide)) (((((e25.trans e6).trans e7).trans e8).trans e9).trans e10)
  · by_cases hl : 0 < ns.length
    · have c1 : EvT (tTest (tOp (rI0 fun i j => .bl (decide (j < i))) (tCB (rLenS K) (tCons (tVar 0) tNil)) (tC (.int 0)))) [some (.ref a), some (.ref sp), some (.int ((k + 1 : Nat) : Int)), none, none, none, none, none, none] H3 true := et_is (et_d (ed_gt (lenD rfl e3) ed_int)) (decide_eq_true (by omega))
      have kq : ∀ {σ : L2.St} {H4 : Hp}, σ[0]? = some (some (.ref a)) → σ[2]? = some (some (.int ((k + 1 : Nat) : Int))) → Ex H2 H4 → ED K (tOp (rI CDiv fun i j => .int (i / j)) (tVar 2) (tCB (rLenS K) (tCons (tVar 0) tNil))) σ H4 (.int (((k + 1 : Nat) : Int) / (ns.length : Int))) := fun hσ h2 e => ed_fdiv (ed_var h2 (.int _)) (lenD hσ e) ⟨by omega, by omega⟩
      refine q_when (b := true && (decide ((10 : Int) ^ (18 : Int).toNat ≤ ns.getD ((k + 1) % ns.length) 0) && decide (((k + 1 : Nat) : Int) / (ns.length : Int) < 60))) (et_and c1 fun _ => et_and (et_d (ed_ge (itemD rfl rfl e3 hl) (ed_pow (ed_int (i := 10)) (ed_int (i := 18)) ⟨by decide, by decide, by decide⟩))) fun _ => et_d (ed_lt (kq rfl rfl e3) ed_int)) (fun hb H4 e4 => ?_) fun hb H4 e4 => rest _ _ ⟨none, none, rfl, e3.trans e4⟩
      have e24 := e3.trans e4
      have hk60 : ((k + 1 : Nat) : Int) / (ns.length : Int) < 60 := by
        simp only [Bool.true_and, Bool.and_eq_true, decide_eq_true_eq] at hb
        exact hb.2
      have hk0 : 0 ≤ ((k + 1 : Nat) : Int) / (ns.length : Int) := Int.ediv_nonneg (by omega) (by omega)
      refine qd_asg (itemD rfl rfl e24 hl) fun v5 H5 e5 hv5 => ?_
      obtain rfl := dp_int hv5
      refine q_forR1 (eva_i (eda_cons (kq rfl rfl (e24.trans e5)) eda_nil)) ⟨hk0, by omega⟩ (fun i σ' H' => ∃ (o : Int) (v4 : Option V), σ' = [some (.ref a), some (.ref sp), some (.int ((k + 1 : Nat) : Int)), some (.int o), v4, none, none, none, none] ∧ Ex H2 H') (fun H6 e6 => ⟨_, none, rfl, (e24.trans e5).trans e6⟩) ?_ ?_
      · rintro i σ' H' hi ⟨o, v4, rfl, e6⟩
        refine sd_asg (K := K) (d := .int (o / 306783379)) (ed_fdiv (ed_var (i := 3) rfl (.int o)) ed_int ⟨by decide, by decide⟩) fun v7 H7 e7 hv7 => ?_
        obtain rfl := dp_int hv7
        exact ⟨_, _, rfl, e6.trans e7⟩
      · rintro σ' H' ⟨o, v4, rfl, e6⟩
        refine s_when (b := decide (0 < o)) (et_d (K := K) (ed_gt (ed_var (i := 3) rfl (.int o)) ed_int)) (fun ho H7 e7 => ?_) fun _ H7 e7 => rest _ _ ⟨_, _, rfl, e6.trans e7⟩
        refine sd_ret (K := K) (ed_mod (ed_var (i := 3) rfl (.int o)) (ed_int (i := 306783379)) (by decide)) fun v10 H10 e10 hv10 => ?_
        obtain rfl := dp_int hv10
        exact q2 _ H10 (Int.emod_nonneg _ (by decide)) (Int.emod_lt_of_pos _ (by decide)) ((e6.trans e7).trans e10)
    · have c1 : EvT (tTest (tOp (rI0 fun i j => .bl (decide (j < i))) (tCB (rLenS K) (tCons (tVar 0) tNil)) (tC (.int 0)))) [some (.ref a), some (.ref sp), some (.int ((k + 1 : Nat) : Int)), none, none, none, none, none, none] H3 false := et_is (et_d (ed_gt (lenD rfl e3) ed_int)) (decide_eq_false (by omega))
      exact q_when (b := false && true) (et_and c1 fun h => by cases h) (fun hb => by cases hb) fun hb H4 e4 => rest _ _ ⟨none, none, rfl, e3.trans e4⟩
end
end LW
namespace LW
open PySem PySem.Spec PyProof.Rows L2 Evl
open LB (Deed Lf P Hd S Mk Co Ev StOk)
def menuL : List Str := ["set", "copy", "add", "sub", "less", "same", "mix", "pick", "times", "parts", "take", "put", "touch", "take", "put", "tell", "idle", "if", "if", "round", "turn", "if", "add"]
structure Gx (K : PySem.W.Frag) (H : Hp) (a sp rm pl mn : Addr) (ns : List Int) (pool : List Nat) (k r : Nat) : Prop where
  scr : Scr K H [sp, rm] a (ns.map V.int)
  n63 : ns.length ≤ 63
  hsp : H sp = some (.lst [.int (k : Int)])
  hrm : H rm = some (.lst [.int (r : Int)])
  ne : sp ≠ rm
  hpl : H pl = some (.lst ((pool.map fun (n : Nat) => (n : Int)).map V.int))
  plo : pl ∉ [sp, rm]
  p0 : 0 < pool.length
  p10 : pool.length ≤ 10
  p32 : ∀ b ∈ pool, b < 32
  hmn : H mn = some (.lst (menuL.map V.str))
  mno : mn ∉ [sp, rm]
section
variable {K : PySem.W.Frag} {H H' : Hp} {a sp rm pl mn : Addr} {ns : List Int} {pool : List Nat} {k r k' r' : Nat}
theorem Gx.to (G : Gx K H a sp rm pl mn ns pool k r) (f : Fr [sp, rm] H H') (h1 : H' sp = some (.lst [.int (k' : Int)])) (h2 : H' rm = some (.lst [.int (r' : Int)])) : Gx K H' a sp rm pl mn ns pool k' r' :=
  ⟨G.scr.fr f, G.n63, h1, h2, G.ne, f _ _ G.hpl G.plo, G.plo, G.p0, G.p10, G.p32, f _ _ G.hmn G.mno, G.mno⟩
theorem Gx.ex (G : Gx K H a sp rm pl mn ns pool k r) (e : Ex H H') : Gx K H' a sp rm pl mn ns pool k r := G.to (Fr.ex e) (e _ _ G.hsp) (e _ _ G.hrm)
theorem fr_sp (f : Fr [sp] H H') : Fr [sp, rm] H H' := f.mono fun b h => by rw [List.mem_singleton.mp h]; exact List.mem_cons_self
theorem Gx.cell (G : Gx K H a sp rm pl mn ns pool k r) (f : Fr [sp] H H') (h1 : H' sp = some (.lst [.int (k' : Int)])) : Gx K H' a sp rm pl mn ns pool k' r :=
  G.to (fr_sp f) h1 (f _ _ G.hrm fun h => G.ne (List.mem_singleton.mp h).symm)
theorem Gx.tx (G : Gx K H a sp rm pl mn ns pool k r) (f : Fr [sp, rm] H H') : Tx H H' := f.tx fun b hb => by
  rcases List.mem_cons.mp hb with rfl | hb
  · exact .lst G.hsp
  · rw [List.mem_singleton.mp hb]; exact .lst G.hrm
end
section
variable {K : PySem.W.Frag} {σ : L2.St} {H : Hp} {ta tb tc td te tf : TE} {E : XK} {a sp rm pl mn : Addr} {ns : List Int} {pool : List Nat} {k r : Nat} {Q : VK}
theorem q_cell (ha : Ev ta σ H (.ref a)) (hb : Ev tb σ H (.ref sp)) (hsc : Scr K H [sp] a (ns.map V.int)) (hns : ns.length ≤ 63) (hsp : H sp = some (.lst [.int (k : Int)])) (hk : k ≤ 100000)
    (q : ∀ (n : Nat) H', n < 306783379 → Fr [sp] H H' → H' sp = some (.lst [.int ((k + 1 : Nat) : Int)]) → Q (.int (n : Int)) H') : tCall (spCell K) [] E (tCons ta (tCons tb tNil)) σ H Q :=
  ha H (Ex.refl H) _ fun H1 e1 => hb H1 e1 _ fun H2 e2 => ⟨rfl, a, sp, ns, k, rfl, hsc.fr (Fr.ex (e1.trans e2)), hns, (e1.trans e2) _ _ hsp, hk, fun n H' hn f h => q n H' hn ((Fr.ex (e1.trans e2)).trans f) h⟩
theorem strs_dps : ∀ (l : List Str) {H : Hp}, DpAll K H (l.map V.str) (l.map PyData.str)
  | [], _ => .nil
  | x :: l, _ => .cons (.str x) (strs_dps l)
/-- two cells, told at once -/
theorem q_twoCells {i j : Nat} {tz : TS} {D : Ends} (ha : σ[0]? = some (some (.ref a))) (hb : σ[1]? = some (some (.ref sp))) (hsc : Scr K H [sp] a (ns.map V.int)) (hns : ns.length ≤ 63) (hsp : H sp = some (.lst [.int (k : Int)])) (hk : k ≤ 90000)
    (q : ∀ (n m : Nat) H', n < 306783379 → m < 306783379 → Fr [sp] H H' → H' sp = some (.lst [.int ((k + 2 : Nat) : Int)]) → tz D ((σ.set i (some (.int (n : Int)))).set j (some (.int (m : Int)))) H') :
    tSeq (tAsg (tTup (tCons (tCall (spCell K) [] E (tCons (tVar 0) (tCons (tVar 1) tNil))) (tCons (tCall (spCell K) [] E (tCons (tVar 0) (tCons (tVar 1) tNil))) tNil))) (gTup K 2 (gCons (gName i) (gCons (gName j) gNil)))) tz D σ H := by
  refine q_cell (ev_var ha) (ev_var hb) hsc hns hsp (by omega) fun n H1 hn f1 h1 => ?_
  refine q_cell (ev_var ha) (ev_var hb) (hsc.fr f1) hns h1 (by omega) fun m H2 hm f2 h2 => ?_
  refine ⟨sz_of (show 2 ≤ 100000 by decide), fun p hp => ?_⟩
  have e3 : Ex H2 (upd H2 p (.tup [.int (n : Int), .int (m : Int)])) := Ex.new hp
  exact ⟨p, _, rfl, st_of upd_same, rfl, _, _, rfl, _, _, rfl, rfl, q n m _ hn hm ((f1.trans f2).trans (Fr.ex e3)) (e3 _ _ h2)⟩
/-- four names for a new list of four -/
theorem q_unl4 {i j l o : Nat} {tz : TS} {D : Ends} {d1 d2 d3 d4 : PyData} (h : EDL K te σ H [d1, d2, d3, d4]) (q : ∀ v1 v2 v3 v4 H', Ex H H' → Dp K H' v1 d1 → Dp K H' v2 d2 → Dp K H' v3 d3 → Dp K H' v4 d4 → tz D ((((σ.set i (some v1)).set j (some v2)).set l (some v3)).set o (some v4)) H') :
    tSeq (tAsg te (gUnl K 4 (gCons (gName i) (gCons (gName j) (gCons (gName l) (gCons (gName o) gNil)))))) tz D σ H := h H (Ex.refl H) _ fun p xs H1 hp e1 h1 h2 => by
  obtain ⟨v1, v2, v3, v4, rfl, q1, q2, q3, q4⟩ := dps4 h2
  exact ⟨p, _, rfl, sq_of h1, rfl, _, _, rfl, _, _, rfl, _, _, rfl, _, _, rfl, rfl, q v1 v2 v3 v4 H1 e1 q1 q2 q3 q4⟩
/-- an item of a written-out dict of three texts -/
theorem ed_disp3 {k1 k2 k3 z : Str} {d1 d2 d3 d : PyData} (h1 : ED K ta σ H d1) (h2 : ED K tb σ H d2) (h3 : ED K tc σ H d3) (z1 : tdat d1 = true) (z2 : tdat d2 = true) (z3 : tdat d3 = true) (hz : ED K te σ H (.str z)) (hd : (if z = k3 then some d3 else if z = k2 then some d2 else if z = k1 then some d1 else none) = some d) :
    ED K (tDGet (tDisp [(tC (.str k1), ta), (tC (.str k2), tb), (tC (.str k3), tc)]) te) σ H d := fun H1 e Q q => by
  intro p hp
  have e1 : Ex H1 (upd H1 p (.dK [])) := Ex.new hp
  refine h1 _ (e.trans e1) _ fun v1 H2 e2 q1 => h2 H2 ((e.trans e1).trans e2) _ fun v2 H3 e3 q2 => h3 H3 (((e.trans e1).trans e2).trans e3) _ fun v3 H4 e4 q3 => ?_
  have hp4 : H4 p = some (.dK []) := e4 _ _ (e3 _ _ (e2 _ _ upd_same))
  refine ⟨hp4, [(Sum.inr k1, v1), (Sum.inr k2, v2), (Sum.inr k3, v3)], rfl, Nat.le_of_ble_eq_true rfl, ?_⟩
  have hm : Ex H1 (upd H4 p (.dK (mergeK [] [(Sum.inr k1, v1), (Sum.inr k2, v2), (Sum.inr k3, v3)]))) := Ex.mut (((e1.trans e2).trans e3).trans e4) hp
  have nT : NoT (H4 p) := fun _ => ⟨(fun q => by rw [hp4] at q; cases q), (fun _ q => by rw [hp4] at q; cases q)⟩
  have tx : Tx H4 (upd H4 p (.dK (mergeK [] [(Sum.inr k1, v1), (Sum.inr k2, v2), (Sum.inr k3, v3)]))) := (Tx.refl H4).upd nT
  have w1 := (q1.ex (e3.trans e4)).tx tx z1
  have w2 := (q2.ex e4).tx tx z2
  have w3 := q3.tx tx z3
  refine hz _ (e.trans hm) _ fun y H5 e5 hy => ?_
  obtain rfl := dp_str hy
  have hp5 := e5 _ _ (show upd H4 p (.dK (mergeK [] [(Sum.inr k1, v1), (Sum.inr k2, v2), (Sum.inr k3, v3)])) p = _ from upd_same)
  have hv : valV (mergeK [] [((Sum.inr k1 : L2.Key), v1), (Sum.inr k2, v2), (Sum.inr k3, v3)]) (Sum.inr z) = if z = k3 then some v3 else if z = k2 then some v2 else if z = k1 then some v1 else none := by
    show valV (putK (putK (putK [] (Sum.inr k1) v1) (Sum.inr k2) v2) (Sum.inr k3) v3) (Sum.inr z) = _
    rw [valV_put, valV_put, valV_put]
    simp only [Sum.inr.injEq]
    rfl
  by_cases c3 : z = k3
  · rw [if_pos c3] at hd hv
    cases hd
    exact ⟨p, v3, rfl, by rw [← hv]; exact DGet.k (k := Sum.inr z) hp5, q v3 H5 (hm.trans e5) (w3.ex e5)⟩
  · rw [if_neg c3] at hd hv
    by_cases c2 : z = k2
    · rw [if_pos c2] at hd hv
      cases hd
      exact ⟨p, v2, rfl, by rw [← hv]; exact DGet.k (k := Sum.inr z) hp5, q v2 H5 (hm.trans e5) (w2.ex e5)⟩
    · rw [if_neg c2] at hd hv
      by_cases c1 : z = k1
      · rw [if_pos c1] at hd hv
        cases hd
        exact ⟨p, v1, rfl, by rw [← hv]; exact DGet.k (k := Sum.inr z) hp5, q v1 H5 (hm.trans e5) (w1.ex e5)⟩
      · rw [if_neg c1] at hd
        cases hd
end
def spStep (K : PySem.W.Frag) (dp : Nat) : Sp := fun vs H Q _ => vs.length = 6 ∧ ∃ (a sp rm pl mn : Addr) (ns : List Int) (pool : List Nat) (k r : Nat), vs = [.ref a, .ref sp, .ref rm, .int (dp : Int), .ref pl, .ref mn] ∧ 1 ≤ dp ∧ Gx K H a sp rm pl mn ns pool k r ∧ k + 4 * r + 14 ≤ 90000 ∧
  ∀ v H' h (k' r' : Nat), Hd.ok dp h → hdSize h + r' ≤ r + 1 → r' ≤ r → k' + 4 * r' ≤ k + 4 + 4 * r → Dp K H' v (.tuple (hdD h)) → Fr [sp, rm] H H' → H' sp = some (.lst [.int (k' : Int)]) → H' rm = some (.lst [.int (r' : Int)]) → Q v H'
def spSteps (K : PySem.W.Frag) (dp : Nat) : Sp := fun vs H Q _ => vs.length = 6 ∧ ∃ (a sp rm pl mn : Addr) (ns : List Int) (pool : List Nat) (k r : Nat), vs = [.ref a, .ref sp, .ref rm, .int (dp : Int), .ref pl, .ref mn] ∧ 1 ≤ dp ∧ Gx K H a sp rm pl mn ns pool k r ∧ k + 4 * r + 11 ≤ 90000 ∧
  ∀ v H' (p : P) (k' r' : Nat), p.ok dp → p.size + r' ≤ r → r' ≤ r → k' + 4 * r' ≤ k + 1 + 4 * r → Dp K H' v (.tuple (progD p)) → Fr [sp, rm] H H' → H' sp = some (.lst [.int (k' : Int)]) → H' rm = some (.lst [.int (r' : Int)]) → Q v H'
def poolAt (m : Nat) (pool : List Nat) : PyData → PyData
  | .int part => nD (pool.getD ((m / part.toNat) % pool.length) 0)
  | d => d
theorem pool_lt {pool : List Nat} (p0 : 0 < pool.length) (p32 : ∀ b ∈ pool, b < 32) (i : Nat) : pool.getD (i % pool.length) 0 < 32 := by
  have hlt := Nat.mod_lt i p0
  rw [List.getD_eq_getElem?_getD, List.getElem?_eq_getElem hlt]
  exact p32 _ (List.getElem_mem hlt)
theorem pool_int (pool : List Nat) (i : Nat) : (pool.map fun (n : Nat) => (n : Int)).getD i 0 = ((pool.getD i 0 : Nat) : Int) := by
  rw [List.getD_eq_getElem?_getD, List.getD_eq_getElem?_getD, List.getElem?_map]
  cases pool[i]? <;> rfl
def sgS (a sp rm pl mn : Addr) (dq n m b c d e : Nat) (w : Str) (t : Nat) : L2.St := [some (.ref a), some (.ref sp), some (.ref rm), some (.int ((dq + 1 : Nat) : Int)), some (.ref pl), some (.ref mn), some (.int (n : Int)), some (.int (m : Int)), some (.int (b : Int)), some (.int (c : Int)), some (.int (d : Int)), some (.int (e : Int)), none, some (.str w), some (.int (t : Int)), none, none]
theorem et_in3 {K : PySem.W.Frag} {σ : L2.St} {H : Hp} {i : Nat} {w x y z : Str} {b : Bool} (h : σ[i]? = some (some (.str w))) (hb : inV (.str w) [.str x, .str y, .str z] = b) : EvT (tTest (tOp (rIn K false) (tVar i) (tTup (tCons (tC (.str x)) (tCons (tC (.str y)) (tCons (tC (.str z)) tNil)))))) σ H b :=
  et_d (ed_inT (ed_var h (.str w)) (ed_tup (eda_cons (ed_c (.str x)) (eda_cons (ed_c (.str y)) (eda_cons (ed_c (.str z)) eda_nil))) (Nat.le_of_ble_eq_true rfl)) (x := .str w) (xs := [.str x, .str y, .str z]) rfl rfl rfl rfl hb)
theorem et_ni3 {K : PySem.W.Frag} {σ : L2.St} {H : Hp} {i : Nat} {w x y z : Str} {b : Bool} (h : σ[i]? = some (some (.str w))) (hb : inV (.str w) [.str x, .str y, .str z] = b) : EvT (tTest (tOp (rIn K true) (tVar i) (tTup (tCons (tC (.str x)) (tCons (tC (.str y)) (tCons (tC (.str z)) tNil)))))) σ H (!b) :=
  et_d (ed_niT (ed_var h (.str w)) (ed_tup (eda_cons (ed_c (.str x)) (eda_cons (ed_c (.str y)) (eda_cons (ed_c (.str z)) eda_nil))) (Nat.le_of_ble_eq_true rfl)) (x := .str w) (xs := [.str x, .str y, .str z]) rfl rfl rfl rfl hb)
theorem et_in2 {K : PySem.W.Frag} {σ : L2.St} {H : Hp} {i : Nat} {w x y : Str} {b : Bool} (h : σ[i]? = some (some (.str w))) (hb : inV (.str w) [.str x, .str y] = b) : EvT (tTest (tOp (rIn K false) (tVar i) (tTup (tCons (tC (.str x)) (tCons (tC (.str y)) tNil))))) σ H b :=
  et_d (ed_inT (ed_var h (.str w)) (ed_tup (eda_cons (ed_c (.str x)) (eda_cons (ed_c (.str y)) eda_nil)) (Nat.le_of_ble_eq_true rfl)) (x := .str w) (xs := [.str x, .str y]) rfl rfl rfl rfl hb)
theorem et_eqS {K : PySem.W.Frag} {σ : L2.St} {H : Hp} {i : Nat} {w x : Str} {b : Bool} (h : σ[i]? = some (some (.str w))) (hb : decide (w = x) = b) : EvT (tTest (tOp rEq (tVar i) (tC (.str x)))) σ H b := et_d (K := K) (ed_eqS (ed_var h (.str w)) (ed_c (.str x)) hb)
def wordsL : List Str := ["set", "copy", "add", "sub", "less", "same", "mix", "pick", "times", "parts", "take", "put", "touch", "tell", "idle", "if", "round", "turn"]
theorem menu_words : ∀ x ∈ menuL, x ∈ wordsL := by decide +kernel
theorem q_asgV {te : TE} {i : Nat} {tz : TS} {D : Ends} {σ : L2.St} {H : Hp} (h : te σ H fun v H1 => tz D (σ.set i (some v)) H1) : tSeq (tAsg te (gName i)) tz D σ H := h
theorem q_arms {K : PySem.W.Frag} {a sp rm pl mn : Addr} {dq n0 m0 b c d e : Nat} {w : Str} {t : Nat} {ns : List Int} {pool : List Nat} {k r n : Nat} {H : Hp} {tr : TA} {Q : VK} (h1d : 1 ≤ dq) (hr : EDA K tr (sgS a sp rm pl mn dq n0 m0 b c d e w t) H [.int (n : Int)]) (hn : n ≤ 10) (G : Gx K H a sp rm pl mn ns pool k r) (hk : k + n + 4 * r + 10 ≤ 90000)
    (q : ∀ l (ps : List P) xs H' (k' r' : Nat), ps.length = n → (∀ p ∈ ps, p.ok dq) → (ps.map P.size).sum + r' ≤ r → r' ≤ r → k' + 4 * r' ≤ k + n + 4 * r → H' l = some (.lst xs) → DpAll K H' xs (ps.map fun p => .tuple (progD p)) → Fr [sp, rm] H H' → H' sp = some (.lst [.int (k' : Int)]) → H' rm = some (.lst [.int (r' : Int)]) → Q (.ref l) H') :
    tLc (iRng1 tr) (gName 16) tYes (tCall (spSteps K dq) [] E0 (tCons (tVar 0) (tCons (tVar 1) (tCons (tVar 2) (tCons (tOp (rI0 fun i j => .int (i - j)) (tVar 3) (tC (.int 1))) (tCons (tVar 4) (tCons (tVar 5) tNil))))))) [16] (sgS a sp rm pl mn dq n0 m0 b c d e w t) H Q := hr H (Ex.refl H) _ fun vs H1 e1 hvs => by
  obtain ⟨v, rfl, hv⟩ := dps1 hvs
  obtain rfl := dp_int hv
  refine ⟨(n : Int), rfl, by omega, by omega, fun Dl hD => ?_⟩
  have G1 := G.ex e1
  have nD1 : Dl ≠ sp := fun h => by rw [h, G1.hsp] at hD; cases hD
  have nD2 : Dl ≠ rm := fun h => by rw [h, G1.hrm] at hD; cases hD
  have nDl : Dl ∉ [sp, rm] := fun h => by
    rcases List.mem_cons.mp h with h | h
    · exact nD1 h
    · exact nD2 (List.mem_singleton.mp h)
  refine ⟨fun i mm H3 => mm = n - i ∧ i ≤ n ∧ Fr [sp, rm] H1 H3 ∧ ∃ (ps : List P) (xs : List V) (k' r' : Nat), H3 Dl = some (.lst xs) ∧ DpAll K H3 xs (ps.map fun p => .tuple (progD p)) ∧ ps.length = i ∧ (∀ p ∈ ps, p.ok dq) ∧ (ps.map P.size).sum + r' ≤ r ∧ r' ≤ r ∧ k' + 4 * r' ≤ k + i + 4 * r ∧ H3 sp = some (.lst [.int (k' : Int)]) ∧ H3 rm = some (.lst [.int (r' : Int)]),
    ⟨n, rfl, Nat.zero_le _, Fr.ex (Ex.new hD), [], [], k, r, upd_same, .nil, rfl, (fun _ h => nomatch h), by simp, Nat.le_refl _, Nat.le_refl _, by rw [upd_ne (Ne.symm nD1)]; exact G1.hsp, by rw [upd_ne (Ne.symm nD2)]; exact G1.hrm⟩, ?_⟩
  rintro i mm H3 ⟨rfl, hi, f3, ps, xs, k', r', hl, hxs, hpl, hok, hsz, hrr, hkk, hs, hm⟩
  by_cases hlt : i < n
  · refine .inr ⟨by show i < (n : Int).toNat; omega, fun H' => ∃ m', m' < n - i ∧ (m' = n - (i + 1) ∧ i + 1 ≤ n ∧ Fr [sp, rm] H1 H' ∧ ∃ (ps : List P) (xs : List V) (k' r' : Nat), H' Dl = some (.lst xs) ∧ DpAll K H' xs (ps.map fun p => .tuple (progD p)) ∧ ps.length = i + 1 ∧ (∀ p ∈ ps, p.ok dq) ∧ (ps.map P.size).sum + r' ≤ r ∧ r' ≤ r ∧ k' + 4 * r' ≤ k + (i + 1) + 4 * r ∧ H' sp = some (.lst [.int (k' : Int)]) ∧ H' rm = some (.lst [.int (r' : Int)])), fun H' h => h, ?_⟩
    rintro x H4 ⟨rfl, rfl⟩
    refine ⟨rfl, ?_⟩
    have G3 := G1.to f3 hs hm
    refine ⟨_, rfl, _, rfl, _, rfl, _, rfl, _, _, rfl, rfl, _, rfl, _, rfl, rfl, a, sp, rm, pl, mn, ns, pool, k', r', ?_, h1d, G3, by omega, fun v H5 p k2 r2 hp hp2 hr2 hk2 hv2 f5 hs5 hm5 => ?_⟩
    · show [V.ref a, .ref sp, .ref rm, .int (((dq + 1 : Nat) : Int) - 1), .ref pl, .ref mn] = _
      rw [show (((dq + 1 : Nat) : Int) - 1) = (dq : Int) by omega]
    · have hl5 := f5 _ _ hl nDl
      have tx5 := G3.tx f5
      refine ⟨xs, hl5, sz_lt (by rw [dps_len hxs, List.length_map, hpl]; omega), n - (i + 1), by omega, rfl, hlt, ?_, ps ++ [p], xs ++ [v], k2, r2, upd_same, ?_, by rw [List.length_append, hpl]; rfl, fun p' hm' => ?_, ?_, by omega, by omega, by rw [upd_ne (Ne.symm nD1)]; exact hs5, by rw [upd_ne (Ne.symm nD2)]; exact hm5⟩
      · intro c' o ho hn'
        rw [upd_ne (ne_of_none ho hD)]
        exact f5 _ _ (f3 _ _ ho hn') hn'
      · rw [List.map_append]
        refine dps_mut (dps_app (hxs.tx tx5 (tdats_map (fun p => tdat_prog p) ps)) (dps_one hv2)) (tdats_all fun d' hd' => ?_) hl5
        rcases List.mem_append.mp hd' with hd' | hd'
        · exact tdats_mem (tdats_map (fun p => tdat_prog p) ps) d' hd'
        · rw [List.mem_singleton.mp hd']; exact tdat_prog p
      · rcases List.mem_append.mp hm' with hm' | hm'
        · exact hok p' hm'
        · rw [List.mem_singleton.mp hm']; exact hp
      · rw [List.map_append, List.sum_append]
        have : ([p].map P.size).sum = p.size := by simp
        omega
  · have hin : i = n := by omega
    subst hin
    exact .inl ⟨by show ((i : Nat) : Int).toNat ≤ i; omega, q Dl ps xs H3 k' r' hpl hok hsz hrr hkk hl hxs ((Fr.ex e1).trans f3) hs hm⟩
section
variable {Pg : Program} {w : World} {K : PySem.W.Frag} {mg : Str → Option Value} {base : Heap} {dF dB aSt aOt aMm C TL : Addr}
abbrev s_law_step : Stmt := top 66
theorem sc_law_step : FnScope ["_law_cells", "_law_spot", "_law_room", "_law_deep", "_law_pool", "_law_menu_here", "_law_n", "_law_m", "_law_b", "_law_c", "_law_d", "_law_e", "_law_part", "_law_word", "_law_table", "_law_arms", "_law_k"] ["_law_cells", "_law_spot", "_law_room", "_law_deep", "_law_pool", "_law_menu_here"] (defScope s_law_step) := ⟨rfl, rfl, rfl, by decide +kernel, rfl, by decide +kernel, by decide +kernel⟩
theorem c_law_step' (D : Df K mg "_law_step" s_law_step ["_law_cells", "_law_spot", "_law_room", "_law_deep", "_law_pool", "_law_menu_here"]) (T : Txt K mg w dF dB aSt aOt aMm) (c_law_cell : Cl Pg w K mg base 1 "_law_cell" (spCell K)) {dq : Nat} (c_law_steps : Cl Pg w K mg base (2 * dq + 1) "_law_steps" (spSteps K dq)) :
    Cl Pg w K mg base (2 * dq + 1 + 1) "_law_step" (spStep K (dq + 1)) := by
  refine D.cl sc_law_step (fun vs H Q E h => h.1) (fun f cdv A outer s H vs Q E hr h => ?_)
  refine ⟨_, (pss_cons (ps_asg (pe_tup (pa_cons (pe_u c_law_cell hr (by omega) rfl (pa_cons (pv 0) (pa_cons (pv 1) pa_nil))) (pa_cons (pe_u c_law_cell hr (by omega) rfl (pa_cons (pv 0) (pa_cons (pv 1) pa_nil))) pa_nil))) (pg_tup rfl (pgs_cons (pg_name (i := 6) sc_law_step.nd rfl (Or.inl rfl)) (pgs_cons (pg_name (i := 7) sc_law_step.nd rfl (Or.inr rfl)) pgs_nil))))
    (pss_cons (ps_asg (pe_lc (own := [("_law_part", 12)]) (g := (gName 12)) (tt := tYes) (by rfl) sc_law_step.nd (pi_tup (pe_tup (pa_cons pe_int (pa_cons pe_int (pa_cons pe_int (pa_cons pe_int pa_nil)))))) (blkOk_by (own := [("_law_part", 12)]) (N := ["_law_cells", "_law_spot", "_law_room", "_law_deep", "_law_pool", "_law_menu_here", "_law_n", "_law_m", "_law_b", "_law_c", "_law_d", "_law_e", "_law_part", "_law_word", "_law_table", "_law_arms", "_law_k"]) (sc := defScope s_law_step) (by decide +kernel)) (fun _ _ _ _ _ => (pg_name (i := 12) sc_law_step.nd rfl (Or.inl rfl))) (fun _ _ _ _ _ => pts_nil) (fun _ _ _ _ _ => (pe_ix (ix_listK K) (pv 4) (pe_op op_mod (pe_op op_fdiv (pv 7) (pv 12)) (pe_callB (call_lenK K) (by rfl) T.n_len (by decide +kernel) (pa_cons (pv 4) pa_nil))) (fun _ _ => rfl)))) (pg_unl (n := 4) rfl (pgs_cons (pg_name (i := 8) sc_law_step.nd rfl (Or.inl rfl)) (pgs_cons (pg_name (i := 9) sc_law_step.nd rfl (Or.inl rfl)) (pgs_cons (pg_name (i := 10) sc_law_step.nd rfl (Or.inl rfl)) (pgs_cons (pg_name (i := 11) sc_law_step.nd rfl (Or.inl rfl)) pgs_nil))))))
    (pss_cons (ps_par (i := 13) (j := 14) (by rfl) sc_law_step.nd rfl rfl (by decide) rfl rfl (pa_cons (pe_ix ix_list (pv 5) (pe_op op_mod (pv 6) (pe_callB call_len_seq (by rfl) T.n_len (by decide +kernel) (pa_cons (pv 5) pa_nil))) (fun _ _ => rfl)) (pa_cons (pe_op op_mod (pe_op op_fdiv (pv 7) pe_int) pe_int) pa_nil)) (by rfl))
    (pss_cons (ps_if (PW.pt (pw_and (pt_cmpR op_in_seq (pv 13) (pe_tup (pa_cons pe_str (pa_cons pe_str (pa_cons pe_str pa_nil)))) (by rfl)) (pw_and1 (pt_cmpR op_lt (pv 3) pe_int (nomark _))))) (pss_one (ps_set (i := 13) sc_law_step.nd rfl (Or.inl rfl) pe_str)) pss_nil)
    (pss_cons (ps_if (pt_cmpR op_in_seq (pv 13) (pe_tup (pa_cons pe_str (pa_cons pe_str (pa_cons pe_str pa_nil)))) (by rfl)) (pss_one (ps_ret (pe_dget (hu_of hr) (pe_disp (pps_cons pe_str (pe_tup (pa_cons pe_str (pa_cons (pv 8) (pa_cons (pe_op op_mod (pe_op op_fdiv (pv 7) pe_int) pe_int) pa_nil)))) (pps_cons pe_str (pe_tup (pa_cons pe_str (pa_cons (pe_op op_add pe_int (pe_op op_mod (pe_op op_fdiv (pv 7) pe_int) pe_int)) pa_nil))) (pps_cons pe_str (pe_tup (pa_cons pe_str (pa_cons (pv 9) pa_nil))) pps_nil))) rfl rfl (by exact fun h => nomatch h) (by decide)) (pv 13) (fun _ _ => rfl)))) pss_nil)
    (pss_cons (ps_if (pt_cmpR op_in_seq (pv 13) (pe_tup (pa_cons pe_str (pa_cons pe_str (pa_cons pe_str pa_nil)))) (by rfl)) (pss_one (ps_ret (pe_dget (hu_of hr) (pe_disp (pps_cons pe_str (pe_tup (pa_cons (pv 13) (pa_cons (pv 8) (pa_cons (pv 14) (pa_cons (pv 9) pa_nil))))) (pps_cons pe_str (pe_tup (pa_cons (pv 13) (pa_cons (pv 14) (pa_cons (pv 9) (pa_cons (pv 10) pa_nil))))) (pps_cons pe_str (pe_tup (pa_cons (pv 13) (pa_cons (pv 14) (pa_cons (pv 9) pa_nil)))) pps_nil))) rfl rfl (by exact fun h => nomatch h) (by decide)) (pv 13) (fun _ _ => rfl)))) pss_nil)
    (pss_cons (ps_if (pt_cmpR op_in_seq (pv 13) (pe_tup (pa_cons pe_str (pa_cons pe_str pa_nil))) (by rfl)) (pss_one (ps_ret (pe_ifExp (pt_cmpR op_eq (pv 13) pe_str (nomark _)) (pe_tup (pa_cons (pv 13) (pa_cons (pv 8) (pa_cons (pv 9) pa_nil)))) (pe_tup (pa_cons (pv 13) (pa_cons (pv 8) (pa_cons (pv 9) (pa_cons (pv 10) (pa_cons (pv 11) pa_nil))))))))) pss_nil)
    (pss_cons (ps_if (pt_cmpR op_notIn_seq (pv 13) (pe_tup (pa_cons pe_str (pa_cons pe_str (pa_cons pe_str pa_nil)))) (by rfl)) (pss_one (ps_ret (pe_tup (pa_cons (pv 13) (pa_cons (pv 8) (pa_cons (pv 9) (pa_cons (pv 10) pa_nil))))))) pss_nil)
    (pss_cons (ps_setLc (i := 15) (own := [("_law_k", 16)]) (g := (gName 16)) (tt := tYes) (by rfl) sc_law_step.nd rfl rfl (sw_true rfl rfl rfl (by decide +kernel)) (pi_range1 rfl T.n_range (pa_cons (pe_op op_add pe_int (pe_callTy call_int1 (by rfl) T.n_int (by decide +kernel) (pa_cons (pe_cmpR op_eq (pv 13) pe_str (nomark _)) pa_nil))) pa_nil)) (blkOk_by (own := [("_law_k", 16)]) (N := ["_law_cells", "_law_spot", "_law_room", "_law_deep", "_law_pool", "_law_menu_here", "_law_n", "_law_m", "_law_b", "_law_c", "_law_d", "_law_e", "_law_part", "_law_word", "_law_table", "_law_arms", "_law_k"]) (sc := defScope s_law_step) (by decide +kernel)) (fun _ _ _ _ _ => (pg_name (i := 16) sc_law_step.nd rfl (Or.inl rfl))) (fun _ _ _ _ _ => pts_nil) (fun _ _ _ _ _ => (pe_u c_law_steps hr (by omega) rfl (pa_cons (pv 0) (pa_cons (pv 1) (pa_cons (pv 2) (pa_cons (pe_op op_sub (pv 3) pe_int) (pa_cons (pv 4) (pa_cons (pv 5) pa_nil)))))))))
    (pss_one (ps_ret (pe_op op_catA (pe_tup (pa_cons (pv 13) (pa_cons (pe_ifExp (pt_cmpR op_eq (pv 13) pe_str (nomark _)) (pe_op op_add pe_int (pe_op op_mod (pe_op op_fdiv (pv 7) pe_int) pe_int)) (pv 9)) pa_nil))) (pe_tupleOf rfl T.n_tuple (pv 15))))))))))))))
    , ?_⟩
  obtain ⟨_, a, sp, rm, pl, mn, ns, pool, k, r, rfl, h1d, G, hk, q⟩ := h
  have ss : ∀ b ∈ [sp], b ∈ [sp, rm] := fun b h => by rw [List.mem_singleton.mp h]; exact List.mem_cons_self
  refine q_twoCells (K := K) (i := 6) (j := 7) rfl rfl (G.scr.sub ss) G.n63 G.hsp (by omega) fun n m H1 hn hm f1 h1 => ?_
  have G1 := G.cell f1 h1
  have poolD : ∀ {σ : L2.St} {H2 : Hp}, σ[4]? = some (some (.ref pl)) → Ex H1 H2 → ED K (tVar 4) σ H2 (.list ((pool.map fun (n : Nat) => (n : Int)).map PyData.int)) := fun hσ e => ed_var hσ (.lst (sq_of (G1.ex e).hpl) (ints_dps _))
  have plen : (pool.map fun (n : Nat) => (n : Int)).length = pool.length := List.length_map ..
  have hlc := edl_lc (K := K) (H := H1) (g := gName 12) (tt := tYes) (vs := [12]) (te := tOp (rIxL K) (tVar 4) (tOp (rI (fun _ j => 0 < j) fun i j => .int (i % j)) (tOp (rI CDiv fun i j => .int (i / j)) (tVar 7) (tVar 12)) (tCB (rLenS K) (tCons (tVar 4) tNil)))) (fun _ => true) (poolAt m pool)
    (it_tup (σ := [some (.ref a), some (.ref sp), some (.ref rm), some (.int ((dq + 1 : Nat) : Int)), some (.ref pl), some (.ref mn), some (.int (n : Int)), some (.int (m : Int)), none, none, none, none, none, none, none, none, none]) (ds := [.int 1, .int 8, .int 64, .int 512]) (ed_tup (eda_cons ed_int (eda_cons ed_int (eda_cons ed_int (eda_cons ed_int eda_nil)))) (Nat.le_of_ble_eq_true rfl))) (by decide) (fun d hd _ => by
      simp only [List.mem_cons, List.not_mem_nil, or_false] at hd
      rcases hd with rfl | rfl | rfl | rfl <;> rfl) (fun i d v H3 e3 hi hd => by
      have hmm := List.mem_of_getElem? hi
      obtain ⟨part, hp0, hp1, rfl⟩ : ∃ part : Nat, 0 < part ∧ part ≤ 512 ∧ d = .int (part : Int) := by
        simp only [List.mem_cons, List.not_mem_nil, or_false] at hmm
        rcases hmm with rfl | rfl | rfl | rfl
        · exact ⟨1, by decide, by decide, rfl⟩
        · exact ⟨8, by decide, by decide, rfl⟩
        · exact ⟨64, by decide, by decide, rfl⟩
        · exact ⟨512, by decide, by decide, rfl⟩
      refine ⟨_, tk_one _, rfl, et_yes, fun _ => ?_⟩
      have hlt : (m / part) % pool.length < pool.length := Nat.mod_lt _ G.p0
      refine ed_ixL (poolD rfl e3) (ed_mod (ed_fdiv (ed_var (i := 7) rfl (.int (m : Int))) (ed_var (i := 12) rfl hd) ⟨by omega, by omega⟩) (ed_lenL (poolD rfl e3)) (by rw [List.length_map, plen]; have := G.p0; omega)) ?_
      rw [List.length_map, plen, ← Int.natCast_ediv, ← Int.natCast_emod, int_at (by rw [plen]; exact hlt), pool_int]
      rfl)
  rw [List.filter_eq_self.mpr (fun _ _ => rfl)] at hlc
  obtain ⟨b, hb⟩ : ∃ b, b = pool.getD (m / 1 % pool.length) 0 := ⟨_, rfl⟩
  obtain ⟨c, hc⟩ : ∃ b, b = pool.getD (m / 8 % pool.length) 0 := ⟨_, rfl⟩
  obtain ⟨d, hd⟩ : ∃ b, b = pool.getD (m / 64 % pool.length) 0 := ⟨_, rfl⟩
  obtain ⟨e, he⟩ : ∃ b, b = pool.getD (m / 512 % pool.length) 0 := ⟨_, rfl⟩
  have hds : [PyData.int 1, .int 8, .int 64, .int 512].map (poolAt m pool) = [nD b, nD c, nD d, nD e] := by rw [hb, hc, hd, he]; rfl
  rw [hds] at hlc
  have b32 : b < 32 := by rw [hb]; exact pool_lt G.p0 G.p32 _
  have c32 : c < 32 := by rw [hc]; exact pool_lt G.p0 G.p32 _
  have d32 : d < 32 := by rw [hd]; exact pool_lt G.p0 G.p32 _
  have e32 : e < 32 := by rw [he]; exact pool_lt G.p0 G.p32 _
  refine q_unl4 (i := 8) (j := 9) (l := 10) (o := 11) hlc fun v1 v2 v3 v4 H2 e2 q1 q2 q3 q4 => ?_
  obtain rfl := dp_int q1
  obtain rfl := dp_int q2
  obtain rfl := dp_int q3
  obtain rfl := dp_int q4
  have G2 := G1.ex e2
  have hmn : ∀ {σ : L2.St} {H3 : Hp}, σ[5]? = some (some (.ref mn)) → Ex H2 H3 → ED K (tVar 5) σ H3 (.list (menuL.map PyData.str)) := fun hσ e => ed_var hσ (.lst (sq_of (G2.ex e).hmn) (strs_dps menuL))
  have hwi : n % 23 < menuL.length := Nat.mod_lt _ (by decide)
  obtain ⟨w0, hw0, hw0m⟩ : ∃ w0, menuL[n % 23]? = some w0 ∧ w0 ∈ menuL := ⟨_, List.getElem?_eq_getElem hwi, List.getElem_mem hwi⟩
  refine qd_par (K := K) (i := 13) (j := 14) (d1 := .str w0) (d2 := nD (m / 4096 % 4)) (eda_cons (ed_ixL (hmn rfl (Ex.refl H2)) (ed_mod (ed_var (i := 6) rfl (.int (n : Int))) (ed_lenL (hmn rfl (Ex.refl H2))) (by decide)) (atI_nat (j := n % 23) (by rw [List.getElem?_map, hw0]; rfl))) (eda_cons (ed_mod (ed_fdiv (ed_var (i := 7) rfl (.int (m : Int))) ed_int ⟨by decide, by decide⟩) (ed_int (i := 4)) (by decide)) eda_nil)) fun vw vt H3 e3 hvw hvt => ?_
  obtain rfl := dp_str hvw
  obtain rfl := dp_int hvt
  have e13 := e2.trans e3
  refine q_share (fun σ' H' => ∃ w' ∈ wordsL, (inV (.str w') [.str "if", .str "round", .str "turn"] = true → 2 ≤ dq + 1) ∧ σ' = sgS a sp rm pl mn dq n m b c d e w' (m / 4096 % 4) ∧ Ex H1 H') ?_ fun rest => ?_
  · rintro σ' H4 ⟨w', hw', hlp, rfl, e4⟩
    have leaf : ∀ (x : Lf) v H', x.ok → Ex H1 H' → Dp K H' v (.tuple (lfD x)) → Q v H' := fun x v H' hx e hv => q v H' (.lf x) (k + 2) r hx (by show 1 + 0 + r ≤ r + 1; omega) (Nat.le_refl r) (by omega) hv ((fr_sp f1).trans (Fr.ex e)) (e _ _ h1) (e _ _ G1.hrm)
    have vB : ∀ {σ : L2.St} {H5 : Hp}, σ[8]? = some (some (.int (b : Int))) → ED K (tVar 8) σ H5 (nD b) := fun h => ed_var h (.int _)
    have vC : ∀ {σ : L2.St} {H5 : Hp}, σ[9]? = some (some (.int (c : Int))) → ED K (tVar 9) σ H5 (nD c) := fun h => ed_var h (.int _)
    have vD : ∀ {σ : L2.St} {H5 : Hp}, σ[10]? = some (some (.int (d : Int))) → ED K (tVar 10) σ H5 (nD d) := fun h => ed_var h (.int _)
    have vE : ∀ {σ : L2.St} {H5 : Hp}, σ[11]? = some (some (.int (e : Int))) → ED K (tVar 11) σ H5 (nD e) := fun h => ed_var h (.int _)
    have vT : ∀ {σ : L2.St} {H5 : Hp}, σ[14]? = some (some (.int ((m / 4096 % 4 : Nat) : Int))) → ED K (tVar 14) σ H5 (nD (m / 4096 % 4)) := fun h => ed_var h (.int _)
    have vM : ∀ {σ : L2.St} {H5 : Hp} (j l : Nat), σ[7]? = some (some (.int (m : Int))) → 0 < j → j < 100000 → 0 < l → ED K (tOp (rI (fun _ j => 0 < j) fun i j => .int (i % j)) (tOp (rI CDiv fun i j => .int (i / j)) (tVar 7) (tC (.int (j : Int)))) (tC (.int (l : Int)))) σ H5 (nD (m / j % l)) := fun j l h h0 h1 h2 => ed_is (ed_mod (ed_fdiv (ed_var h (.int _)) ed_int ⟨by omega, by omega⟩) ed_int (by omega)) (by rw [← Int.natCast_ediv, ← Int.natCast_emod])
    have t4 : m / 4096 % 4 < 4 := Nat.mod_lt _ (by decide)
    have vI : ∀ {σ : L2.St} {H5 : Hp}, σ[7]? = some (some (.int (m : Int))) → ED K (tOp (rI0 fun i j => .int (i + j)) (tC (.int 1)) (tOp (rI (fun _ j => 0 < j) fun i j => .int (i % j)) (tOp (rI CDiv fun i j => .int (i / j)) (tVar 7) (tC (.int 64))) (tC (.int 60)))) σ H5 (nD (1 + m / 64 % 60)) := fun h => ed_is (ed_add (ed_int (i := 1)) (vM 64 60 h (by decide) (by decide) (by decide))) (congrArg PyData.int (by omega))
    have vR : ∀ {σ : L2.St} {H5 : Hp}, σ[7]? = some (some (.int (m : Int))) → ED K (tOp (rI0 fun i j => .int (i + j)) (tC (.int 1)) (tOp (rI (fun _ j => 0 < j) fun i j => .int (i % j)) (tOp (rI CDiv fun i j => .int (i / j)) (tVar 7) (tC (.int 64))) (tC (.int 4)))) σ H5 (nD (1 + m / 64 % 4)) := fun h => ed_is (ed_add (ed_int (i := 1)) (vM 64 4 h (by decide) (by decide) (by decide))) (congrArg PyData.int (by omega))
    have le3 : ∀ {a b c : PyData}, ([a, b, c] : List PyData).length ≤ 100000 := Nat.le_of_ble_eq_true rfl
    have le4 : ∀ {a b c d : PyData}, ([a, b, c, d] : List PyData).length ≤ 100000 := Nat.le_of_ble_eq_true rfl
    have dA : ∀ {z : Str} {dd : PyData} {H5 : Hp}, w' = z → (if z = "tell" then some (.tuple [.str "tell", nD c]) else if z = "idle" then some (.tuple [.str "idle", nD (1 + m / 64 % 60)]) else if z = "set" then some (.tuple [.str "set", nD b, nD (m / 4096 % 16)]) else none) = some dd → _ := fun {z dd H5} hz hd => ed_disp3 (K := K) (σ := sgS a sp rm pl mn dq n m b c d e w' (m / 4096 % 4)) (H := H5) (k1 := "set") (k2 := "idle") (k3 := "tell") (z := z) (d := dd) (ed_tup (eda_cons (ed_c (.str "set")) (eda_cons (vB rfl) (eda_cons (vM 4096 16 rfl (by decide) (by decide) (by decide)) eda_nil))) (Nat.le_of_ble_eq_true rfl)) (ed_tup (eda_cons (ed_c (.str "idle")) (eda_cons (vI rfl) eda_nil)) (Nat.le_of_ble_eq_true rfl)) (ed_tup (eda_cons (ed_c (.str "tell")) (eda_cons (vC rfl) eda_nil)) (Nat.le_of_ble_eq_true rfl)) rfl rfl rfl (ed_var (i := 13) (by rw [← hz]; rfl) (.str z)) hd
    have dB : ∀ {z : Str} {dd : PyData} {H5 : Hp}, w' = z → (if z = "touch" then some (.tuple [.str w', nD (m / 4096 % 4), nD c]) else if z = "put" then some (.tuple [.str w', nD (m / 4096 % 4), nD c, nD d]) else if z = "take" then some (.tuple [.str w', nD b, nD (m / 4096 % 4), nD c]) else none) = some dd → _ := fun {z dd H5} hz hd => ed_disp3 (K := K) (σ := sgS a sp rm pl mn dq n m b c d e w' (m / 4096 % 4)) (H := H5) (k1 := "take") (k2 := "put") (k3 := "touch") (z := z) (d := dd) (ed_tup (eda_cons (ed_var (i := 13) rfl (.str w')) (eda_cons (vB rfl) (eda_cons (vT rfl) (eda_cons (vC rfl) eda_nil)))) (Nat.le_of_ble_eq_true rfl)) (ed_tup (eda_cons (ed_var (i := 13) rfl (.str w')) (eda_cons (vT rfl) (eda_cons (vC rfl) (eda_cons (vD rfl) eda_nil)))) (Nat.le_of_ble_eq_true rfl)) (ed_tup (eda_cons (ed_var (i := 13) rfl (.str w')) (eda_cons (vT rfl) (eda_cons (vC rfl) eda_nil))) (Nat.le_of_ble_eq_true rfl)) rfl rfl rfl (ed_var (i := 13) (by rw [← hz]; rfl) (.str z)) hd
    simp only [wordsL, List.mem_cons, List.not_mem_nil, or_false] at hw'
    rcases hw' with rfl | rfl | rfl | rfl | rfl | rfl | rfl | rfl | rfl | rfl | rfl | rfl | rfl | rfl | rfl | rfl | rfl | rfl
    · exact q_yes (et_in3 (b := true) rfl rfl) rfl fun H5 e5 => sd_ret (K := K) (d := .tuple (lfD (.deed (.set b (m / 4096 % 16))))) (dA rfl rfl) fun v H6 e6 hv => leaf (.deed (.set b (m / 4096 % 16))) v H6 ⟨b32, Nat.mod_lt _ (by decide)⟩ ((e4.trans e5).trans e6) hv
    · refine q_not (et_in3 (b := false) rfl rfl) rfl fun H5 e5 => ?_
      refine q_not (et_in3 (b := false) rfl rfl) rfl fun H6 e6 => ?_
      exact q_yes (et_in2 (b := true) rfl rfl) rfl fun H7 e7 => sd_ret (K := K) (d := .tuple (lfD (.deed (.copy b c)))) (ed_if (b := true) (et_eqS (K := K) rfl rfl) (fun _ => ed_tup (eda_cons (ed_var (i := 13) rfl (.str _)) (eda_cons (vB rfl) (eda_cons (vC rfl) eda_nil))) (Nat.le_of_ble_eq_true rfl)) (fun h => by cases h)) fun v H8 e8 hv => leaf (.deed (.copy b c)) v H8 ⟨b32, c32⟩ ((((e4.trans e5).trans e6).trans e7).trans e8) hv
    · refine q_not (et_in3 (b := false) rfl rfl) rfl fun H5 e5 => ?_
      refine q_not (et_in3 (b := false) rfl rfl) rfl fun H6 e6 => ?_
      refine q_not (et_in2 (b := false) rfl rfl) rfl fun H7 e7 => ?_
      exact q_yes (b := true) (et_ni3 (b := false) rfl rfl) rfl fun H8 e8 => sd_ret (K := K) (d := .tuple (lfD (.deed (.op2 .add b c d)))) (ed_tup (eda_cons (ed_var (i := 13) rfl (.str _)) (eda_cons (vB rfl) (eda_cons (vC rfl) (eda_cons (vD rfl) eda_nil)))) (Nat.le_of_ble_eq_true rfl)) fun v H9 e9 hv => leaf (.deed (.op2 .add b c d)) v H9 ⟨b32, c32, d32⟩ (((((e4.trans e5).trans e6).trans e7).trans e8).trans e9) hv
    · refine q_not (et_in3 (b := false) rfl rfl) rfl fun H5 e5 => ?_
      refine q_not (et_in3 (b := false) rfl rfl) rfl fun H6 e6 => ?_
      refine q_not (et_in2 (b := false) rfl rfl) rfl fun H7 e7 => ?_
      exact q_yes (b := true) (et_ni3 (b := false) rfl rfl) rfl fun H8 e8 => sd_ret (K := K) (d := .tuple (lfD (.deed (.op2 .sub b c d)))) (ed_tup (eda_cons (ed_var (i := 13) rfl (.str _)) (eda_cons (vB rfl) (eda_cons (vC rfl) (eda_cons (vD rfl) eda_nil)))) (Nat.le_of_ble_eq_true rfl)) fun v H9 e9 hv => leaf (.deed (.op2 .sub b c d)) v H9 ⟨b32, c32, d32⟩ (((((e4.trans e5).trans e6).trans e7).trans e8).trans e9) hv
    · refine q_not (et_in3 (b := false) rfl rfl) rfl fun H5 e5 => ?_
      refine q_not (et_in3 (b := false) rfl rfl) rfl fun H6 e6 => ?_
      refine q_not (et_in2 (b := false) rfl rfl) rfl fun H7 e7 => ?_
      exact q_yes (b := true) (et_ni3 (b := false) rfl rfl) rfl fun H8 e8 => sd_ret (K := K) (d := .tuple (lfD (.deed (.op2 .less b c d)))) (ed_tup (eda_cons (ed_var (i := 13) rfl (.str _)) (eda_cons (vB rfl) (eda_cons (vC rfl) (eda_cons (vD rfl) eda_nil)))) (Nat.le_of_ble_eq_true rfl)) fun v H9 e9 hv => leaf (.deed (.op2 .less b c d)) v H9 ⟨b32, c32, d32⟩ (((((e4.trans e5).trans e6).trans e7).trans e8).trans e9) hv
    · refine q_not (et_in3 (b := false) rfl rfl) rfl fun H5 e5 => ?_
      refine q_not (et_in3 (b := false) rfl rfl) rfl fun H6 e6 => ?_
      refine q_not (et_in2 (b := false) rfl rfl) rfl fun H7 e7 => ?_
      exact q_yes (b := true) (et_ni3 (b := false) rfl rfl) rfl fun H8 e8 => sd_ret (K := K) (d := .tuple (lfD (.deed (.op2 .same b c d)))) (ed_tup (eda_cons (ed_var (i := 13) rfl (.str _)) (eda_cons (vB rfl) (eda_cons (vC rfl) (eda_cons (vD rfl) eda_nil)))) (Nat.le_of_ble_eq_true rfl)) fun v H9 e9 hv => leaf (.deed (.op2 .same b c d)) v H9 ⟨b32, c32, d32⟩ (((((e4.trans e5).trans e6).trans e7).trans e8).trans e9) hv
    · refine q_not (et_in3 (b := false) rfl rfl) rfl fun H5 e5 => ?_
      refine q_not (et_in3 (b := false) rfl rfl) rfl fun H6 e6 => ?_
      refine q_not (et_in2 (b := false) rfl rfl) rfl fun H7 e7 => ?_
      exact q_yes (b := true) (et_ni3 (b := false) rfl rfl) rfl fun H8 e8 => sd_ret (K := K) (d := .tuple (lfD (.deed (.op2 .mix b c d)))) (ed_tup (eda_cons (ed_var (i := 13) rfl (.str _)) (eda_cons (vB rfl) (eda_cons (vC rfl) (eda_cons (vD rfl) eda_nil)))) (Nat.le_of_ble_eq_true rfl)) fun v H9 e9 hv => leaf (.deed (.op2 .mix b c d)) v H9 ⟨b32, c32, d32⟩ (((((e4.trans e5).trans e6).trans e7).trans e8).trans e9) hv
    · refine q_not (et_in3 (b := false) rfl rfl) rfl fun H5 e5 => ?_
      refine q_not (et_in3 (b := false) rfl rfl) rfl fun H6 e6 => ?_
      exact q_yes (et_in2 (b := true) rfl rfl) rfl fun H7 e7 => sd_ret (K := K) (d := .tuple (lfD (.deed (.pick b c d e)))) (ed_if (b := false) (et_eqS (K := K) rfl rfl) (fun h => by cases h) (fun _ => ed_tup (eda_cons (ed_var (i := 13) rfl (.str _)) (eda_cons (vB rfl) (eda_cons (vC rfl) (eda_cons (vD rfl) (eda_cons (vE rfl) eda_nil))))) (Nat.le_of_ble_eq_true rfl))) fun v H8 e8 hv => leaf (.deed (.pick b c d e)) v H8 ⟨b32, c32, d32, e32⟩ ((((e4.trans e5).trans e6).trans e7).trans e8) hv
    · refine q_not (et_in3 (b := false) rfl rfl) rfl fun H5 e5 => ?_
      refine q_not (et_in3 (b := false) rfl rfl) rfl fun H6 e6 => ?_
      refine q_not (et_in2 (b := false) rfl rfl) rfl fun H7 e7 => ?_
      exact q_yes (b := true) (et_ni3 (b := false) rfl rfl) rfl fun H8 e8 => sd_ret (K := K) (d := .tuple (lfD (.deed (.op2 .times b c d)))) (ed_tup (eda_cons (ed_var (i := 13) rfl (.str _)) (eda_cons (vB rfl) (eda_cons (vC rfl) (eda_cons (vD rfl) eda_nil)))) (Nat.le_of_ble_eq_true rfl)) fun v H9 e9 hv => leaf (.deed (.op2 .times b c d)) v H9 ⟨b32, c32, d32⟩ (((((e4.trans e5).trans e6).trans e7).trans e8).trans e9) hv
    · refine q_not (et_in3 (b := false) rfl rfl) rfl fun H5 e5 => ?_
      refine q_not (et_in3 (b := false) rfl rfl) rfl fun H6 e6 => ?_
      refine q_not (et_in2 (b := false) rfl rfl) rfl fun H7 e7 => ?_
      exact q_yes (b := true) (et_ni3 (b := false) rfl rfl) rfl fun H8 e8 => sd_ret (K := K) (d := .tuple (lfD (.deed (.op2 .parts b c d)))) (ed_tup (eda_cons (ed_var (i := 13) rfl (.str _)) (eda_cons (vB rfl) (eda_cons (vC rfl) (eda_cons (vD rfl) eda_nil)))) (Nat.le_of_ble_eq_true rfl)) fun v H9 e9 hv => leaf (.deed (.op2 .parts b c d)) v H9 ⟨b32, c32, d32⟩ (((((e4.trans e5).trans e6).trans e7).trans e8).trans e9) hv
    · refine q_not (et_in3 (b := false) rfl rfl) rfl fun H5 e5 => ?_
      exact q_yes (et_in3 (b := true) rfl rfl) rfl fun H6 e6 => sd_ret (K := K) (d := .tuple (lfD (.take b (m / 4096 % 4) c))) (dB rfl rfl) fun v H7 e7 hv => leaf (.take b (m / 4096 % 4) c) v H7 ⟨b32, t4, c32⟩ (((e4.trans e5).trans e6).trans e7) hv
    · refine q_not (et_in3 (b := false) rfl rfl) rfl fun H5 e5 => ?_
      exact q_yes (et_in3 (b := true) rfl rfl) rfl fun H6 e6 => sd_ret (K := K) (d := .tuple (lfD (.put (m / 4096 % 4) c d))) (dB rfl rfl) fun v H7 e7 hv => leaf (.put (m / 4096 % 4) c d) v H7 ⟨t4, c32, d32⟩ (((e4.trans e5).trans e6).trans e7) hv
    · refine q_not (et_in3 (b := false) rfl rfl) rfl fun H5 e5 => ?_
      exact q_yes (et_in3 (b := true) rfl rfl) rfl fun H6 e6 => sd_ret (K := K) (d := .tuple (lfD (.touch (m / 4096 % 4) c))) (dB rfl rfl) fun v H7 e7 hv => leaf (.touch (m / 4096 % 4) c) v H7 ⟨t4, c32⟩ (((e4.trans e5).trans e6).trans e7) hv
    · exact q_yes (et_in3 (b := true) rfl rfl) rfl fun H5 e5 => sd_ret (K := K) (d := .tuple (lfD (.tell c))) (dA rfl rfl) fun v H6 e6 hv => leaf (.tell c) v H6 c32 ((e4.trans e5).trans e6) hv
    · exact q_yes (et_in3 (b := true) rfl rfl) rfl fun H5 e5 => sd_ret (K := K) (d := .tuple (lfD (.idle (1 + m / 64 % 60)))) (dA rfl rfl) fun v H6 e6 hv => leaf (.idle (1 + m / 64 % 60)) v H6 ⟨by omega, by have := Nat.mod_lt (m / 64) (show 0 < 60 by decide); omega⟩ ((e4.trans e5).trans e6) hv
    · refine q_not (et_in3 (b := false) rfl rfl) rfl fun H5 e5 => ?_
      refine q_not (et_in3 (b := false) rfl rfl) rfl fun H6 e6 => ?_
      refine q_not (et_in2 (b := false) rfl rfl) rfl fun H7 e7 => ?_
      refine q_not (b := false) (et_ni3 (b := true) rfl rfl) rfl fun H8 e8 => ?_
      have e18 := (((e4.trans e5).trans e6).trans e7).trans e8
      have G8 := G1.ex e18
      have h1q : 1 ≤ dq := by have := hlp rfl; omega
      have hrg : EDA K (tCons (tOp (rI0 fun i j => .int (i + j)) (tC (.int 1)) (tCB (fun xs H Q => (∃ i, xs = [V.int i] ∧ Q (.int i) H) ∨ ∃ k, xs = [V.bl k] ∧ Q (.int (if k then 1 else 0)) H) (tCons (tOp rEq (tVar 13) (tC (.str "if"))) tNil))) tNil) (sgS a sp rm pl mn dq n m b c d e "if" (m / 4096 % 4)) H8 [.int ((2 : Nat) : Int)] := eda_cons (ed_is (ed_add (ed_int (i := 1)) (ed_intB (b := true) (eda_cons (ed_eqS (ed_var (i := 13) rfl (.str _)) (ed_c (.str "if")) rfl) eda_nil))) rfl) eda_nil
      refine q_asgV ?_
      refine q_arms h1q hrg (by decide) G8 (by omega) fun l ps xs H9 k' r' hpl hok hsz hrr hkk hl hxs f9 hs9 hm9 => ?_
      obtain ⟨p1, p2, rfl⟩ : ∃ p1 p2, ps = [p1, p2] := by
        match ps, hpl with
        | [p1, p2], _ => exact ⟨p1, p2, rfl⟩
      have o1 := hok p1 (by simp)
      have o2 := hok p2 (by simp)
      have hsum : p1.size + p2.size + r' ≤ r := by
        have h : p1.size + (p2.size + 0) + r' ≤ r := hsz
        omega
      refine sd_ret (K := K) (d := .tuple (hdD (.ite c p1 p2))) (ed_catT (ds := [.str "if", nD c]) (es := [.tuple (progD p1), .tuple (progD p2)]) (ed_tup (eda_cons (ed_var (i := 13) rfl (.str _)) (eda_cons (ed_if (b := false) (et_eqS (K := K) rfl rfl) (fun h => by cases h) fun _ => vC rfl) eda_nil)) (Nat.le_of_ble_eq_true rfl)) (ed_tupOfL (ed_var (i := 15) rfl (.lst (sq_of hl) hxs))) (Nat.le_of_ble_eq_true rfl)) fun v H10 e10 hv => ?_
      exact q v H10 (.ite c p1 p2) k' r' ⟨c32, o1, o2⟩ (by show 1 + (p1.size + (p2.size + 0)) + r' ≤ r + 1; omega) hrr (by omega) hv (((fr_sp f1).trans (Fr.ex e18)).trans (f9.trans (Fr.ex e10))) (e10 _ _ hs9) (e10 _ _ hm9)
    · refine q_not (et_in3 (b := false) rfl rfl) rfl fun H5 e5 => ?_
      refine q_not (et_in3 (b := false) rfl rfl) rfl fun H6 e6 => ?_
      refine q_not (et_in2 (b := false) rfl rfl) rfl fun H7 e7 => ?_
      refine q_not (b := false) (et_ni3 (b := true) rfl rfl) rfl fun H8 e8 => ?_
      have e18 := (((e4.trans e5).trans e6).trans e7).trans e8
      have G8 := G1.ex e18
      have h1q : 1 ≤ dq := by have := hlp rfl; omega
      have hrg : EDA K (tCons (tOp (rI0 fun i j => .int (i + j)) (tC (.int 1)) (tCB (fun xs H Q => (∃ i, xs = [V.int i] ∧ Q (.int i) H) ∨ ∃ k, xs = [V.bl k] ∧ Q (.int (if k then 1 else 0)) H) (tCons (tOp rEq (tVar 13) (tC (.str "if"))) tNil))) tNil) (sgS a sp rm pl mn dq n m b c d e "round" (m / 4096 % 4)) H8 [.int ((1 : Nat) : Int)] := eda_cons (ed_is (ed_add (ed_int (i := 1)) (ed_intB (b := false) (eda_cons (ed_eqS (ed_var (i := 13) rfl (.str _)) (ed_c (.str "if")) rfl) eda_nil))) rfl) eda_nil
      refine q_asgV ?_
      refine q_arms h1q hrg (by decide) G8 (by omega) fun l ps xs H9 k' r' hpl hok hsz hrr hkk hl hxs f9 hs9 hm9 => ?_
      obtain ⟨p1, rfl⟩ : ∃ p1, ps = [p1] := by
        match ps, hpl with
        | [p1], _ => exact ⟨p1, rfl⟩
      have o1 := hok p1 (by simp)
      have hsum : p1.size + r' ≤ r := by
        have h : p1.size + 0 + r' ≤ r := hsz
        omega
      refine sd_ret (K := K) (d := .tuple (hdD (.rnd (1 + m / 64 % 4) p1))) (ed_catT (ds := [.str "round", nD (1 + m / 64 % 4)]) (es := [.tuple (progD p1)]) (ed_tup (eda_cons (ed_var (i := 13) rfl (.str _)) (eda_cons (ed_if (b := true) (et_eqS (K := K) rfl rfl) (fun _ => vR rfl) fun h => by cases h) eda_nil)) (Nat.le_of_ble_eq_true rfl)) (ed_tupOfL (ed_var (i := 15) rfl (.lst (sq_of hl) hxs))) (Nat.le_of_ble_eq_true rfl)) fun v H10 e10 hv => ?_
      exact q v H10 (.rnd (1 + m / 64 % 4) p1) k' r' ⟨by omega, by have := Nat.mod_lt (m / 64) (show 0 < 4 by decide); omega, o1⟩ (by show 1 + (p1.size + 0) + r' ≤ r + 1; omega) hrr (by omega) hv (((fr_sp f1).trans (Fr.ex e18)).trans (f9.trans (Fr.ex e10))) (e10 _ _ hs9) (e10 _ _ hm9)
    · refine q_not (et_in3 (b := false) rfl rfl) rfl fun H5 e5 => ?_
      refine q_not (et_in3 (b := false) rfl rfl) rfl fun H6 e6 => ?_
      refine q_not (et_in2 (b := false) rfl rfl) rfl fun H7 e7 => ?_
      refine q_not (b := false) (et_ni3 (b := true) rfl rfl) rfl fun H8 e8 => ?_
      have e18 := (((e4.trans e5).trans e6).trans e7).trans e8
      have G8 := G1.ex e18
      have h1q : 1 ≤ dq := by have := hlp rfl; omega
      have hrg : EDA K (tCons (tOp (rI0 fun i j => .int (i + j)) (tC (.int 1)) (tCB (fun xs H Q => (∃ i, xs = [V.int i] ∧ Q (.int i) H) ∨ ∃ k, xs = [V.bl k] ∧ Q (.int (if k then 1 else 0)) H) (tCons (tOp rEq (tVar 13) (tC (.str "if"))) tNil))) tNil) (sgS a sp rm pl mn dq n m b c d e "turn" (m / 4096 % 4)) H8 [.int ((1 : Nat) : Int)] := eda_cons (ed_is (ed_add (ed_int (i := 1)) (ed_intB (b := false) (eda_cons (ed_eqS (ed_var (i := 13) rfl (.str _)) (ed_c (.str "if")) rfl) eda_nil))) rfl) eda_nil
      refine q_asgV ?_
      refine q_arms h1q hrg (by decide) G8 (by omega) fun l ps xs H9 k' r' hpl hok hsz hrr hkk hl hxs f9 hs9 hm9 => ?_
      obtain ⟨p1, rfl⟩ : ∃ p1, ps = [p1] := by
        match ps, hpl with
        | [p1], _ => exact ⟨p1, rfl⟩
      have o1 := hok p1 (by simp)
      have hsum : p1.size + r' ≤ r := by
        have h : p1.size + 0 + r' ≤ r := hsz
        omega
      refine sd_ret (K := K) (d := .tuple (hdD (.trn c p1))) (ed_catT (ds := [.str "turn", nD c]) (es := [.tuple (progD p1)]) (ed_tup (eda_cons (ed_var (i := 13) rfl (.str _)) (eda_cons (ed_if (b := false) (et_eqS (K := K) rfl rfl) (fun h => by cases h) fun _ => vC rfl) eda_nil)) (Nat.le_of_ble_eq_true rfl)) (ed_tupOfL (ed_var (i := 15) rfl (.lst (sq_of hl) hxs))) (Nat.le_of_ble_eq_true rfl)) fun v H10 e10 hv => ?_
      exact q v H10 (.trn c p1) k' r' ⟨c32, o1⟩ (by show 1 + (p1.size + 0) + r' ≤ r + 1; omega) hrr (by omega) hv (((fr_sp f1).trans (Fr.ex e18)).trans (f9.trans (Fr.ex e10))) (e10 _ _ hs9) (e10 _ _ hm9)
  · have tl : EvT (tTest (tOp (rIn K false) (tVar 13) (tTup (tCons (tC (.str "if")) (tCons (tC (.str "round")) (tCons (tC (.str "turn")) tNil)))))) [some (.ref a), some (.ref sp), some (.ref rm), some (.int ((dq + 1 : Nat) : Int)), some (.ref pl), some (.ref mn), some (.int (n : Int)), some (.int (m : Int)), some (.int (b : Int)), some (.int (c : Int)), some (.int (d : Int)), some (.int (e : Int)), none, some (.str w0), some (.int ((m / 4096 % 4 : Nat) : Int)), none, none] H3 (inV (.str w0) [.str "if", .str "round", .str "turn"]) :=
      et_d (ed_inT (ed_var (i := 13) rfl (.str w0)) (ed_tup (eda_cons (ed_c (.str "if")) (eda_cons (ed_c (.str "round")) (eda_cons (ed_c (.str "turn")) eda_nil))) (Nat.le_of_ble_eq_true rfl)) (x := .str w0) (xs := [.str "if", .str "round", .str "turn"]) rfl rfl rfl rfl rfl)
    refine q_when (et_and tl fun _ => et_d (K := K) (ed_lt (ed_var (i := 3) rfl (.int _)) (ed_int (i := 2)))) (fun hb2 H4 e4 => ?_) fun hb2 H4 e4 => rest _ _ ⟨w0, menu_words w0 hw0m, fun hl => ?_, rfl, e13.trans e4⟩
    · refine sd_asg (K := K) (d := .str "idle") (ed_c (.str "idle")) fun v5 H5 e5 hv5 => ?_
      obtain rfl := dp_str hv5
      exact rest _ _ ⟨"idle", by decide +kernel, (fun h => by cases h), rfl, (e13.trans e4).trans e5⟩
    · rw [hl] at hb2
      have : ¬ (((dq + 1 : Nat) : Int) < 2) := by simpa using hb2
      omega
end
end LW
namespace LW
open PySem PySem.Spec PyProof.Rows L2 Evl
open LB (Deed Lf P Hd S Mk Co Ev StOk)
def ofH : List Hd → P
  | [] => .nil
  | .lf x :: r => .lf x (ofH r)
  | .ite c a b :: r => .ite c a b (ofH r)
  | .rnd n a :: r => .rnd n a (ofH r)
  | .trn c a :: r => .trn c a (ofH r)
theorem ofH_heads : ∀ l : List Hd, (ofH l).heads = l
  | [] => rfl
  | .lf x :: r => congrArg (_ :: ·) (ofH_heads r)
  | .ite c a b :: r => congrArg (_ :: ·) (ofH_heads r)
  | .rnd n a :: r => congrArg (_ :: ·) (ofH_heads r)
  | .trn c a :: r => congrArg (_ :: ·) (ofH_heads r)
theorem ofH_size (l : List Hd) : (ofH l).size = (l.map hdSize).sum := by rw [← heads_size, ofH_heads]
theorem ofH_ok {d : Nat} (h1 : 1 ≤ d) : ∀ l : List Hd, (∀ h ∈ l, h.ok d) → (ofH l).ok d
  | [], _ => trivial
  | .lf x :: r, h => ⟨h1, h _ List.mem_cons_self, ofH_ok h1 r fun y m => h y (List.mem_cons_of_mem _ m)⟩
  | .ite c a b :: r, h => by
    obtain ⟨q1, q2, q3⟩ := h _ List.mem_cons_self
    exact ⟨h1, q1, q2, q3, ofH_ok h1 r fun y m => h y (List.mem_cons_of_mem _ m)⟩
  | .rnd n a :: r, h => by
    obtain ⟨q1, q2, q3⟩ := h _ List.mem_cons_self
    exact ⟨h1, q1, q2, q3, ofH_ok h1 r fun y m => h y (List.mem_cons_of_mem _ m)⟩
  | .trn c a :: r, h => by
    obtain ⟨q1, q2⟩ := h _ List.mem_cons_self
    exact ⟨h1, q1, q2, ofH_ok h1 r fun y m => h y (List.mem_cons_of_mem _ m)⟩
theorem ofH_D (l : List Hd) : progD (ofH l) = l.map fun h => .tuple (hdD h) := by rw [progD_heads, ofH_heads]
section
variable {K : PySem.W.Frag} {σ : L2.St} {H : Hp} {tc te : TE} {E : XK} {a sp : Addr} {ns : List Int} {k : Nat} {Q : VK}
/-- one of some written values, by a cell -/
theorem q_pick {cs : List Int} {l : Nat} (hc : EDL K tc σ H (cs.map PyData.int)) (hl : cs.length = l) (h0 : 0 < l) (ha : σ[0]? = some (some (.ref a))) (hb : σ[1]? = some (some (.ref sp))) (hsc : Scr K H [sp] a (ns.map V.int)) (hns : ns.length ≤ 63) (hsp : H sp = some (.lst [.int (k : Int)])) (hk : k ≤ 100000)
    (q : ∀ (c : Int) H', c ∈ cs → Fr [sp] H H' → H' sp = some (.lst [.int ((k + 1 : Nat) : Int)]) → Q (.int c) H') : tOp (rIxL K) tc (tOp (rI (fun _ j => 0 < j) fun i j => .int (i % j)) (tCall (spCell K) [] E (tCons (tVar 0) (tCons (tVar 1) tNil))) (tC (.int (l : Int)))) σ H Q :=
  hc H (Ex.refl H) _ fun p xs H1 hp e1 h1 hxs => by
    obtain rfl := dps_ints hxs
    refine q_cell (ev_var ha) (ev_var hb) (hsc.fr (Fr.ex e1)) hns (e1 _ _ hsp) hk fun n H2 hn f2 h2 => ?_
    have hpn : p ∉ [sp] := fun h => by rw [List.mem_singleton.mp h, hsp] at hp; cases hp
    have hlt : n % l < cs.length := by rw [hl]; exact Nat.mod_lt _ h0
    refine ⟨_, _, rfl, rfl, by omega, p, _, _, _, rfl, rfl, sq_of (f2 _ _ h1 hpn), ?_, q _ H2 (List.getElem_mem hlt) ((Fr.ex e1).trans f2) h2⟩
    rw [← Int.natCast_emod]
    exact atI_nat (by rw [List.getElem?_map, List.getElem?_eq_getElem hlt]; rfl)
/-- a range of a count that is reckoned with a change -/
theorem q_forRG {te : TE} {j : Nat} {tu tz : TS} {D : Ends} (G : Nat → Hp → Prop) (h : ∀ Q : VK, (∀ (n : Nat) H1, G n H1 → Q (.int (n : Int)) H1) → te σ H Q)
    (k : ∀ n H1, G n H1 → n ≤ 100000 ∧ ∃ Pv : Nat → L2.St → Hp → Prop, Pv 0 σ H1 ∧ (∀ (i : Nat) σ' H', i < n → Pv i σ' H' → tu { D with nx := Pv (i + 1), ct := Pv (i + 1), bk := tz D } (σ'.set j (some (.int (i : Int)))) H') ∧ ∀ σ' H', Pv n σ' H' → tz D σ' H') : tSeq (tFor (iRng1 (tCons te tNil)) (gName j) tu) tz D σ H := h _ fun n H1 g => by
  obtain ⟨hn, Pv, p0, ps, pd⟩ := k n H1 g
  refine ⟨(n : Int), rfl, by omega, by omega, ?_⟩
  have e0 : ((n : Int)).toNat = n := by omega
  rw [e0]
  exact for_range (D := { D with nx := tz D }) (lo := 0) (n := n) Pv p0 (fun i σ' H' hi p => by
    have e0 : (0 : Int) + (i : Int) = (i : Int) := Int.zero_add _
    show tu { D with nx := Pv (i + 1), ct := Pv (i + 1), bk := tz D } (σ'.set j (some (.int ((0 : Int) + (i : Int))))) H'
    rw [e0]
    exact ps i σ' H' hi p) pd
theorem q_step {dp : Nat} {rm pl mn : Addr} {pool : List Nat} {r : Nat} (h0 : σ[0]? = some (some (.ref a))) (h1 : σ[1]? = some (some (.ref sp))) (h2 : σ[2]? = some (some (.ref rm))) (h3 : σ[3]? = some (some (.int (dp : Int)))) (h4 : σ[4]? = some (some (.ref pl))) (h5 : σ[5]? = some (some (.ref mn))) (hd : 1 ≤ dp) (G : Gx K H a sp rm pl mn ns pool k r) (hk : k + 4 * r + 14 ≤ 90000)
    (q : ∀ v H' h (k' r' : Nat), Hd.ok dp h → hdSize h + r' ≤ r + 1 → r' ≤ r → k' + 4 * r' ≤ k + 4 + 4 * r → Dp K H' v (.tuple (hdD h)) → Fr [sp, rm] H H' → H' sp = some (.lst [.int (k' : Int)]) → H' rm = some (.lst [.int (r' : Int)]) → Q v H') :
    tCall (spStep K dp) [] E (tCons (tVar 0) (tCons (tVar 1) (tCons (tVar 2) (tCons (tVar 3) (tCons (tVar 4) (tCons (tVar 5) tNil)))))) σ H Q :=
  ⟨_, h0, _, h1, _, h2, _, h3, _, h4, _, h5, rfl, a, sp, rm, pl, mn, ns, pool, k, r, rfl, hd, G, hk, q⟩
end
section
variable {Pg : Program} {w : World} {K : PySem.W.Frag} {mg : Str → Option Value} {base : Heap} {dF dB aSt aOt aMm C TL : Addr}
abbrev s_law_steps : Stmt := top 67
theorem sc_law_steps : FnScope ["_law_cells", "_law_spot", "_law_room", "_law_deep", "_law_pool", "_law_menu_here", "_law_found", "_law_k"] ["_law_cells", "_law_spot", "_law_room", "_law_deep", "_law_pool", "_law_menu_here"] (defScope s_law_steps) := ⟨rfl, rfl, rfl, by decide +kernel, rfl, by decide +kernel, by decide +kernel⟩
theorem steps_body (T : Txt K mg w dF dB aSt aOt aMm) (c_law_cell : Cl Pg w K mg base 1 "_law_cell" (spCell K)) {dq : Nat} (c_law_step : Cl Pg w K mg base (2 * dq + 1 + 1) "_law_step" (spStep K (dq + 1))) {j : Nat} (hj : 2 * dq + 1 + 1 ≤ j)
    (f : Addr) (cdv : Value) (A : Around) (outer : List Env) (s : Shared) (H : Hp) (vs : List V) (Q : VK) (E : XK) (hr : Room j (A.deeper (envOfC "_law_steps" (defScope s_law_steps) s.heap.objs.size f cdv))) (h : spSteps K (dq + 1) vs H Q E) :
    ∃ t, PSs (cxOf CX0 Pg w K mg base ["_law_cells", "_law_spot", "_law_room", "_law_deep", "_law_pool", "_law_menu_here", "_law_found", "_law_k"] "_law_steps" (defScope s_law_steps) f cdv A outer s H E).nox (defBody s_law_steps) t ∧ t { nx := fun _ H' => Q .non H', rt := Q } (start ["_law_cells", "_law_spot", "_law_room", "_law_deep", "_law_pool", "_law_menu_here", "_law_found", "_law_k"] vs) H := by
  refine ⟨_, (pss_cons (ps_set (i := 6) sc_law_steps.nd rfl (Or.inl rfl) (pe_lst pa_nil))
    (pss_cons (ps_for PassesOwn.never rfl (pi_range1 rfl T.n_range (pa_cons (pe_ix ix_list (pe_lst (pa_cons pe_int (pa_cons pe_int (pa_cons pe_int (pa_cons pe_int (pa_cons pe_int (pa_cons pe_int pa_nil))))))) (pe_op op_mod (pe_u c_law_cell hr (by omega) rfl (pa_cons (pv 0) (pa_cons (pv 1) pa_nil))) pe_int) (fun _ _ => rfl)) pa_nil)) (pg_name (i := 7) sc_law_steps.nd rfl (Or.inl rfl))
    (pss_one (ps_if (pt_cmpR op_gt (pe_ix ix_list (pv 2) pe_int (fun _ _ => rfl)) pe_int (nomark _)) (pss_cons (ps_asg (pe_op op_sub (pe_ix ix_list (pv 2) pe_int (fun _ _ => rfl)) pe_int) (pg_sub (pv 2) pe_int set_list))
    (pss_one (ps_expr (pe_bm PySem.F.plainAttrs_list PySem.F.slot_list_append PySem.F.type_list_append mt_append (pv 6) (pa_cons (pe_u c_law_step hr (by omega) rfl (pa_cons (pv 0) (pa_cons (pv 1) (pa_cons (pv 2) (pa_cons (pv 3) (pa_cons (pv 4) (pa_cons (pv 5) pa_nil))))))) pa_nil))))) pss_nil)))
    (pss_one (ps_ret (pe_tupleOf rfl T.n_tuple (pv 6))))))
    , ?_⟩
  obtain ⟨_, a, sp, rm, pl, mn, ns, pool, k, r, rfl, h1d, G, hk, q⟩ := h
  have ss : ∀ b ∈ [sp], b ∈ [sp, rm] := fun b h => by rw [List.mem_singleton.mp h]; exact List.mem_cons_self
  refine qd_asgL (K := K) (edl_lst eda_nil (Nat.zero_le _)) fun lf xs H1 hlf e1 hx hxs => ?_
  obtain rfl : xs = [] := by cases hxs; rfl
  have G1 := G.ex e1
  have nl : lf ∉ [sp, rm] := fun h => by
    rcases List.mem_cons.mp h with h | h
    · rw [h, G.hsp] at hlf; cases hlf
    · rw [List.mem_singleton.mp h, G.hrm] at hlf; cases hlf
  have nls : lf ≠ sp := fun h => nl (by rw [h]; exact List.mem_cons_self)
  have nlr : lf ≠ rm := fun h => nl (by rw [h]; simp)
  refine q_forRG (fun n H2 => n ≤ 5 ∧ Fr [sp] H1 H2 ∧ H2 sp = some (.lst [.int ((k + 1 : Nat) : Int)])) (fun Q' kk => ?_) fun n H2 ⟨hn, f2, h2⟩ => ⟨by omega, ?_⟩
  · refine q_pick (K := K) (cs := [0, 1, 2, 2, 3, 5]) (l := 6) (edl_lst (K := K) (eda_cons ed_int (eda_cons ed_int (eda_cons ed_int (eda_cons ed_int (eda_cons ed_int (eda_cons ed_int eda_nil)))))) (Nat.le_of_ble_eq_true rfl)) rfl (by decide) rfl rfl (G1.scr.sub ss) G.n63 G1.hsp (by omega) fun c H2 hc f2 h2 => ?_
    have hcs : 0 ≤ c ∧ c ≤ 5 := by
      simp only [List.mem_cons, List.not_mem_nil, or_false] at hc
      omega
    have := kk c.toNat H2 ⟨by omega, f2, h2⟩
    rw [Int.toNat_of_nonneg hcs.1] at this
    exact this
  have f02 : Fr [sp, rm] H H2 := (Fr.ex e1).trans (fr_sp f2)
  refine ⟨fun i σ' H' => ∃ (v7 : Option V) (hs : List Hd) (xs : List V) (k' r' : Nat), σ' = [some (.ref a), some (.ref sp), some (.ref rm), some (.int ((dq + 1 : Nat) : Int)), some (.ref pl), some (.ref mn), some (.ref lf), v7] ∧ H' lf = some (.lst xs) ∧ DpAll K H' xs (hs.map fun h => .tuple (hdD h)) ∧ hs.length ≤ i ∧ (∀ h ∈ hs, h.ok (dq + 1)) ∧ (hs.map hdSize).sum + r' ≤ r ∧ r' ≤ r ∧
    k' + 4 * r' ≤ k + 1 + 4 * r ∧ Fr [sp, rm] H H' ∧ H' sp = some (.lst [.int (k' : Int)]) ∧ H' rm = some (.lst [.int (r' : Int)]), ⟨none, [], [], k + 1, r, rfl, f2 _ _ hx (fun h => nls (List.mem_singleton.mp h)), .nil, Nat.le_refl _, (fun _ h => nomatch h), by simp, Nat.le_refl _, Nat.le_refl _, f02, h2, f2 _ _ G1.hrm (fun h => G.ne (List.mem_singleton.mp h).symm)⟩, ?_, ?_⟩
  · rintro i σ' H' hi ⟨v7, hs, xs, k', r', rfl, hl, hxs, hsl, hok, hsz, hrr, hkk, fr, hs', hm'⟩
    have G3 := G.to fr hs' hm'
    have rD : ∀ {σ : L2.St} {H4 : Hp}, σ[2]? = some (some (.ref rm)) → Ex H' H4 → ED K (tOp (rIxL K) (tVar 2) (tC (.int 0))) σ H4 (.int (r' : Int)) := fun hσ e => ed_ixL (ed_var hσ (.lst (sq_of (e _ _ hm')) (ints_dps [(r' : Int)]))) (ed_int (i := 0)) rfl
    refine s_when (b := decide (0 < (r' : Int))) (et_d (K := K) (ed_gt (rD rfl (Ex.refl H')) ed_int)) (fun hpos H4 e4 => ?_) fun _ H4 e4 => ⟨_, hs, xs, k', r', rfl, e4 _ _ hl, hxs.ex e4, Nat.le_succ_of_le hsl, hok, hsz, hrr, hkk, fr.trans (Fr.ex e4), e4 _ _ hs', e4 _ _ hm'⟩
    have hpos' : 0 < r' := by have := of_decide_eq_true hpos; omega
    refine q_setL (l := rm) (xs := [.int (r' : Int)]) (j := 0) (v := .int ((r' - 1 : Nat) : Int)) (e4 _ _ hm') (ev_edI (ed_is (ed_sub (K := K) (rD rfl e4) (ed_int (i := 1))) (congrArg PyData.int (by omega)))) (ev_var rfl) ev_c (by show 0 < 1; decide) fun H5 e5 => ?_
    have e45 := e4.trans e5
    have hset : upd H5 rm (.lst ([V.int (r' : Int)].set 0 (.int ((r' - 1 : Nat) : Int)))) = upd H5 rm (.lst [.int ((r' - 1 : Nat) : Int)]) := rfl
    rw [hset]
    have f6 : Fr [sp, rm] H' (upd H5 rm (.lst [.int ((r' - 1 : Nat) : Int)])) := (Fr.ex e45).trans (Fr.mut (by simp))
    have hm6 : upd H5 rm (.lst [.int ((r' - 1 : Nat) : Int)]) rm = some (.lst [.int ((r' - 1 : Nat) : Int)]) := upd_same
    have hs6 : upd H5 rm (.lst [.int ((r' - 1 : Nat) : Int)]) sp = some (.lst [.int (k' : Int)]) := by rw [upd_ne G.ne]; exact e45 _ _ hs'
    have hl6 := f6 _ _ hl nl
    have hxs6 := hxs.tx (G3.tx f6) (tdats_map (fun h => tdat_hd h) hs)
    revert f6 hm6 hs6 hl6 hxs6
    generalize upd H5 rm (.lst [.int ((r' - 1 : Nat) : Int)]) = H6
    intro f6 hm6 hs6 hl6 hxs6
    have G6 := G3.to f6 hs6 hm6
    refine ⟨_, rfl, Or.inl ⟨rfl, xs, sq_of hl6⟩, ?_⟩
    refine q_step (K := K) rfl rfl rfl rfl rfl rfl h1d G6 (by omega) fun v H7 h' k2 r2 ho hs2 hr2 hk2 hv2 f7 hs7 hm7 => ?_
    have hl7 := f7 _ _ hl6 nl
    refine ⟨lf, xs, v, rfl, rfl, hl7, sz_lt (by rw [dps_len hxs6, List.length_map]; omega), ?_⟩
    refine ⟨_, hs ++ [h'], xs ++ [v], k2, r2, rfl, upd_same, ?_, by rw [List.length_append]; show _ + 1 ≤ i + 1; omega, fun y hy => ?_, ?_, by omega, by omega, ?_, by rw [upd_ne (Ne.symm nls)]; exact hs7, by rw [upd_ne (Ne.symm nlr)]; exact hm7⟩
    · rw [List.map_append]
      refine dps_mut (dps_app (hxs6.tx (G6.tx f7) (tdats_map (fun h => tdat_hd h) hs)) (dps_one hv2)) (tdats_all fun d' hd' => ?_) hl7
      rcases List.mem_append.mp hd' with hd' | hd'
      · exact tdats_mem (tdats_map (fun h => tdat_hd h) hs) d' hd'
      · rw [List.mem_singleton.mp hd']; exact tdat_hd h'
    · rcases List.mem_append.mp hy with hy | hy
      · exact hok y hy
      · rw [List.mem_singleton.mp hy]; exact ho
    · rw [List.map_append, List.sum_append]
      have : ([h'].map hdSize).sum = hdSize h' := by simp
      omega
    · intro c' o ho' hn'
      rw [upd_ne (ne_of_none ho' hlf)]
      exact ((fr.trans f6).trans f7) _ _ ho' hn'
  · rintro σ' H' ⟨v7, hs, xs, k', r', rfl, hl, hxs, hsl, hok, hsz, hrr, hkk, fr, hs', hm'⟩
    refine sd_ret (K := K) (d := .tuple (progD (ofH hs))) (by
      rw [ofH_D]
      exact ed_tupOfL (ed_var (i := 6) rfl (.lst (sq_of hl) hxs))) fun v H8 e8 hv => ?_
    exact q v H8 (ofH hs) k' r' (ofH_ok h1d hs hok) (by rw [ofH_size]; exact hsz) hrr hkk hv (fr.trans (Fr.ex e8)) (e8 _ _ hs') (e8 _ _ hm')
theorem c_law_steps' (D : Df K mg "_law_steps" s_law_steps ["_law_cells", "_law_spot", "_law_room", "_law_deep", "_law_pool", "_law_menu_here"]) (T : Txt K mg w dF dB aSt aOt aMm) (c_law_cell : Cl Pg w K mg base 1 "_law_cell" (spCell K)) {dq : Nat} (c_law_step : Cl Pg w K mg base (2 * dq + 1 + 1) "_law_step" (spStep K (dq + 1))) :
    Cl Pg w K mg base (2 * dq + 1 + 1 + 1) "_law_steps" (spSteps K (dq + 1)) := D.cl sc_law_steps (fun vs H Q E h => h.1) fun f cdv A outer s H vs Q E hr h => steps_body T c_law_cell c_law_step (Nat.le_refl _) f cdv A outer s H vs Q E hr h
theorem c_law_steps_all (D : Df K mg "_law_steps" s_law_steps ["_law_cells", "_law_spot", "_law_room", "_law_deep", "_law_pool", "_law_menu_here"]) (D2 : Df K mg "_law_step" s_law_step ["_law_cells", "_law_spot", "_law_room", "_law_deep", "_law_pool", "_law_menu_here"]) (T : Txt K mg w dF dB aSt aOt aMm) (c_law_cell : Cl Pg w K mg base 1 "_law_cell" (spCell K)) : ∀ dq : Nat, Cl Pg w K mg base (2 * dq + 1) "_law_steps" (spSteps K dq)
  | 0 => D.cl (k := 0) sc_law_steps (fun vs H Q E h => h.1) fun f cdv A outer s H vs Q E hr h => by
      obtain ⟨_, a, sp, rm, pl, mn, ns, pool, k, r, _, h1, _⟩ := h
      omega
  | dq + 1 => c_law_steps' D T c_law_cell (c_law_step' D2 T c_law_cell (c_law_steps_all D D2 T c_law_cell dq))
def spStepsU (K : PySem.W.Frag) : Sp := fun vs H Q E => ∃ dp, dp ≤ 7 ∧ spSteps K dp vs H Q E
theorem c_law_stepsU (D : Df K mg "_law_steps" s_law_steps ["_law_cells", "_law_spot", "_law_room", "_law_deep", "_law_pool", "_law_menu_here"]) (D2 : Df K mg "_law_step" s_law_step ["_law_cells", "_law_spot", "_law_room", "_law_deep", "_law_pool", "_law_menu_here"]) (T : Txt K mg w dF dB aSt aOt aMm) (c_law_cell : Cl Pg w K mg base 1 "_law_cell" (spCell K)) :
    Cl Pg w K mg base 15 "_law_steps" (spStepsU K) := D.cl (k := 14) sc_law_steps (fun vs H Q E ⟨dp, _, h⟩ => h.1) fun f cdv A outer s H vs Q E hr ⟨dp, hdp, h⟩ => by
  cases dp with
  | zero =>
    obtain ⟨_, a, sp, rm, pl, mn, ns, pool, k, r, _, h1, _⟩ := h
    omega
  | succ dq => exact steps_body T c_law_cell (c_law_step' D2 T c_law_cell (c_law_steps_all D D2 T c_law_cell dq)) (by omega) f cdv A outer s H vs Q E hr h
end
end LW
namespace LW
open PySem PySem.Spec PyProof.Rows L2 Evl
open LB (Deed Lf P Hd S Mk Co Ev StOk)
section
variable {K : PySem.W.Frag} {σ : L2.St} {H H1 : Hp} {own : List Addr} {a b : Addr} {xs : List V}
theorem Scr.add (h : Scr K H own a xs) (hb : H b = none) : Scr K H (own ++ [b]) a xs := by
  rcases h with ⟨h, n⟩ | h
  · refine .inl ⟨h, fun m => ?_⟩
    rcases List.mem_append.mp m with m | m
    · exact n m
    · rw [List.mem_singleton.mp m] at h
      rcases h with h | ⟨u, h⟩ <;> rw [hb] at h <;> cases h
  · exact .inr h
theorem r_cat {x y : V} {ds es : List PyData} {Q : VK} (hx : Dp K H x (.tuple ds)) (hy : Dp K H y (.tuple es)) (hz : ds.length + es.length ≤ 100000) (q : ∀ v H2, Ex H H2 → Dp K H2 v (.tuple (ds ++ es)) → Q v H2) : rCatA K x y H Q :=
  ed_catT (σ := []) (ed_c hx) (ed_c hy) hz H (Ex.refl H) Q q
theorem edl_catV {ta tb : TE} {l : Addr} {ds es : List PyData} (ha : Ev ta σ H (.ref l)) (hl : H l = some (.lst xs)) (hxs : DpAll K H xs ds) (hb : EDL K tb σ H es) (hz : ds.length + es.length ≤ 100000) : EDL K (tOp rCat ta tb) σ H (ds ++ es) := fun H1 e Q q =>
  ha H1 e _ fun H2 e2 => hb H2 (e.trans e2) _ fun p' ys H3 hp' e3 h3 hy => ⟨l, p', xs, ys, rfl, rfl, e3 _ _ (e2 _ _ (e _ _ hl)), h3, sz_of (by rw [dps_len hxs, dps_len hy]; exact hz), fun t ht => q t (xs ++ ys) _ (fresh_back (e2.trans e3) ht) ((e2.trans e3).trans (Ex.new ht)) upd_same ((dps_app (hxs.ex ((e.trans e2).trans e3)) hy).ex (Ex.new ht))⟩
theorem cutTwo (ds : List PyData) (lo hi : Nat) (h : lo ≤ hi) (hl : hi ≤ ds.length) : cutD ds (some (lo : Int)) (some (hi : Int)) = (ds.drop lo).take (hi - lo) := by
  unfold cutD
  rw [show HT.sIx ds.length 0 (some (lo : Int)) = min lo ds.length from HT.sIx_nat _ _ lo, show HT.sIx ds.length ds.length (some (hi : Int)) = min hi ds.length from HT.sIx_nat _ _ hi, Nat.min_eq_left hl, Nat.min_eq_left (by omega)]
end
theorem q_asgVx {te : TE} {i : Nat} {D : Ends} {σ : L2.St} {H : Hp} (h : te σ H fun v H1 => D.nx (σ.set i (some v)) H1) : tAsg te (gName i) D σ H := h
theorem cat_app : ∀ (p q : P), progD (p.app q) = progD p ++ progD q := progD_app
theorem size_app (p q : P) : (p.app q).size = p.size + q.size := by rw [← heads_size, LB.heads_app, List.map_append, List.sum_append, heads_size, heads_size]
def poolOf (m : Nat) (i : Nat) : Nat := (m / 32 + i * (2 * (m % 16) + 1)) % 32
def poolX (m : Nat) : PyData → PyData
  | .int i => nD (poolOf m i.toNat)
  | d => d
section
variable {K : PySem.W.Frag} {σ : L2.St} {H : Hp} {ta tb t0 t1 t2 t3 t4 t5 : TE} {E : XK} {Q : VK}
theorem q_parLT {i j : Nat} {tz : TS} {D : Ends} {ds : List PyData} {d : PyData} (h1 : EDL K ta σ H ds) (h2 : ∀ H1, Ex H H1 → ED K tb σ H1 d) (q : ∀ p xs v H', H p = none → Ex H H' → H' p = some (.lst xs) → DpAll K H' xs ds → Dp K H' v d → tz D ((σ.set i (some (.ref p))).set j (some v)) H') : tSeq (tPar i j (tCons ta (tCons tb tNil))) tz D σ H :=
  h1 H (Ex.refl H) _ fun p xs H1 hp e1 hx hxs => h2 H1 e1 H1 (Ex.refl H1) _ fun v H2 e2 hv => ⟨_, _, rfl, q p xs v H2 hp (e1.trans e2) (e2 _ _ hx) (hxs.ex e2) hv⟩
theorem q_stepsU {a sp rm pl mn : Addr} {ns : List Int} {pool : List Nat} {k r dp : Nat} (h0 : Ev t0 σ H (.ref a)) (h1 : Ev t1 σ H (.ref sp)) (h2 : Ev t2 σ H (.ref rm)) (h3 : ED K t3 σ H (.int (dp : Int))) (h4 : Ev t4 σ H (.ref pl)) (h5 : Ev t5 σ H (.ref mn)) (hd : 1 ≤ dp) (hd7 : dp ≤ 7) (G : Gx K H a sp rm pl mn ns pool k r) (hk : k + 4 * r + 11 ≤ 90000)
    (q : ∀ v H' (p : P) (k' r' : Nat), p.ok dp → p.size + r' ≤ r → r' ≤ r → k' + 4 * r' ≤ k + 1 + 4 * r → Dp K H' v (.tuple (progD p)) → Fr [sp, rm] H H' → H' sp = some (.lst [.int (k' : Int)]) → H' rm = some (.lst [.int (r' : Int)]) → Q v H') :
    tCall (spStepsU K) [] E (tCons t0 (tCons t1 (tCons t2 (tCons t3 (tCons t4 (tCons t5 tNil)))))) σ H Q :=
  h0 H (Ex.refl H) _ fun H1 e1 => h1 H1 e1 _ fun H2 e2 => h2 H2 (e1.trans e2) _ fun H3 e3 => h3 H3 ((e1.trans e2).trans e3) _ fun v H4 e4 hv => h4 H4 (((e1.trans e2).trans e3).trans e4) _ fun H5 e5 => h5 H5 ((((e1.trans e2).trans e3).trans e4).trans e5) _ fun H6 e6 => by
    have e06 := ((((e1.trans e2).trans e3).trans e4).trans e5).trans e6
    obtain rfl := dp_int hv
    exact ⟨dp, hd7, rfl, a, sp, rm, pl, mn, ns, pool, k, r, rfl, hd, G.ex e06, hk, fun v H' p k' r' o1 o2 o3 o4 o5 f o6 o7 => q v H' p k' r' o1 o2 o3 o4 o5 ((Fr.ex e06).trans f) o6 o7⟩
end
section
variable {Pg : Program} {w : World} {K : PySem.W.Frag} {mg : Str → Option Value} {base : Heap} {dF dB aSt aOt aMm C TL : Addr}
abbrev s_law_menu : Stmt := top 71
theorem sc_law_menu : FnScope ["_law_some"] [] (defScope s_law_menu) := ⟨rfl, rfl, rfl, by decide +kernel, rfl, by decide +kernel, by decide +kernel⟩
theorem c_law_menu (D : Df K mg "_law_menu" s_law_menu []) (T : Txt K mg w dF dB aSt aOt aMm) : Cl Pg w K mg base 1 "_law_menu" (spDL K 0 fun ds es => ds = [] ∧ es = menuL.map PyData.str) := by
  refine D.cl sc_law_menu (fun vs H Q E h => h.1) (fun f cdv A outer s H vs Q E hr h => ?_)
  refine ⟨_, (pss_cons (ps_set (i := 0) sc_law_menu.nd rfl (Or.inl rfl) (pe_lst (pa_cons pe_str (pa_cons pe_str (pa_cons pe_str (pa_cons pe_str (pa_cons pe_str (pa_cons pe_str (pa_cons pe_str (pa_cons pe_str (pa_cons pe_str (pa_cons pe_str (pa_cons pe_str (pa_cons pe_str (pa_cons pe_str pa_nil)))))))))))))))
    (pss_one (ps_ret (pe_op op_cat (pv 0) (pe_lst (pa_cons pe_str (pa_cons pe_str (pa_cons pe_str (pa_cons pe_str (pa_cons pe_str (pa_cons pe_str (pa_cons pe_str (pa_cons pe_str (pa_cons pe_str (pa_cons pe_str pa_nil)))))))))))))))
    , ?_⟩
  obtain ⟨hl, ds, es, hds, ⟨rfl, rfl⟩, k⟩ := h
  obtain rfl : vs = [] := by cases hds; rfl
  have es : ∀ (x : Str), ED K (tC (.str x)) [none] H (.str x) := fun x => ed_c (.str x)
  refine qd_asgL (K := K) (ds := (menuL.take 13).map PyData.str) (edl_lst (eda_cons (ed_c (.str _)) (eda_cons (ed_c (.str _)) (eda_cons (ed_c (.str _)) (eda_cons (ed_c (.str _)) (eda_cons (ed_c (.str _)) (eda_cons (ed_c (.str _)) (eda_cons (ed_c (.str _)) (eda_cons (ed_c (.str _)) (eda_cons (ed_c (.str _)) (eda_cons (ed_c (.str _)) (eda_cons (ed_c (.str _)) (eda_cons (ed_c (.str _)) (eda_cons (ed_c (.str _)) eda_nil))))))))))))) (Nat.le_of_ble_eq_true rfl)) fun l xs H1 hlf e1 hx hxs => ?_
  have hs : menuL.map PyData.str = (menuL.take 13).map PyData.str ++ (menuL.drop 13).map PyData.str := by rw [← List.map_append, List.take_append_drop]
  rw [hs] at k
  refine sd_retL (K := K) (edl_catV (ev_var (i := 0) rfl) hx hxs (edl_lst (ds := (menuL.drop 13).map PyData.str) (eda_cons (ed_c (.str _)) (eda_cons (ed_c (.str _)) (eda_cons (ed_c (.str _)) (eda_cons (ed_c (.str _)) (eda_cons (ed_c (.str _)) (eda_cons (ed_c (.str _)) (eda_cons (ed_c (.str _)) (eda_cons (ed_c (.str _)) (eda_cons (ed_c (.str _)) (eda_cons (ed_c (.str _)) eda_nil)))))))))) (Nat.le_of_ble_eq_true rfl)) (Nat.le_of_ble_eq_true rfl)) fun p ys H2 hp e2 hy hys => k p ys H2 (fresh_back e1 hp) (e1.trans e2) hy hys
abbrev s_law_program : Stmt := top 68
theorem sc_law_program : FnScope ["_law_cells", "_law_spot", "_law_menu_here", "_law_n", "_law_m", "_law_pool", "_law_k", "_law_room", "_law_found"] ["_law_cells", "_law_spot", "_law_menu_here"] (defScope s_law_program) := ⟨rfl, rfl, rfl, by decide +kernel, rfl, by decide +kernel, by decide +kernel⟩
def spProg (K : PySem.W.Frag) : Sp := fun vs H Q _ => vs.length = 3 ∧ ∃ (a sp mn : Addr) (ns : List Int) (k : Nat), vs = [.ref a, .ref sp, .ref mn] ∧ Scr K H [sp] a (ns.map V.int) ∧ ns.length ≤ 63 ∧ H sp = some (.lst [.int (k : Int)]) ∧ H mn = some (.lst (menuL.map V.str)) ∧ mn ≠ sp ∧ k ≤ 80000 ∧
  ∀ v H' (p : P) (k' : Nat), p.ok 7 → p.size ≤ 40 → k' ≤ k + 200 → Dp K H' v (.tuple (progD p)) → Fr [sp] H H' → H' sp = some (.lst [.int (k' : Int)]) → Q v H'
theorem c_law_program (D : Df K mg "_law_program" s_law_program ["_law_cells", "_law_spot", "_law_menu_here"]) (T : Txt K mg w dF dB aSt aOt aMm) (c_law_cell : Cl Pg w K mg base 1 "_law_cell" (spCell K)) (c_law_steps : Cl Pg w K mg base 15 "_law_steps" (spStepsU K)) : Cl Pg w K mg base 16 "_law_program" (spProg K) := by
  refine D.cl sc_law_program (fun vs H Q E h => h.1) (fun f cdv A outer s H vs Q E hr h => ?_)
  refine ⟨_, (pss_cons (ps_asg (pe_tup (pa_cons (pe_u c_law_cell hr (by omega) rfl (pa_cons (pv 0) (pa_cons (pv 1) pa_nil))) (pa_cons (pe_u c_law_cell hr (by omega) rfl (pa_cons (pv 0) (pa_cons (pv 1) pa_nil))) pa_nil))) (pg_tup rfl (pgs_cons (pg_name (i := 3) sc_law_program.nd rfl (Or.inl rfl)) (pgs_cons (pg_name (i := 4) sc_law_program.nd rfl (Or.inr rfl)) pgs_nil))))
    (pss_cons (ps_setLc (i := 5) (own := [("_law_k", 6)]) (g := (gName 6)) (tt := tYes) (by rfl) sc_law_program.nd rfl rfl (sw_true rfl rfl rfl (by decide +kernel)) (pi_range1 rfl T.n_range (pa_cons (pe_op op_add pe_int (pe_op op_mod (pv 3) pe_int)) pa_nil)) (blkOk_by (own := [("_law_k", 6)]) (N := ["_law_cells", "_law_spot", "_law_menu_here", "_law_n", "_law_m", "_law_pool", "_law_k", "_law_room", "_law_found"]) (sc := defScope s_law_program) (by decide +kernel)) (fun _ _ _ _ _ => (pg_name (i := 6) sc_law_program.nd rfl (Or.inl rfl))) (fun _ _ _ _ _ => pts_nil) (fun _ _ _ _ _ => (pe_op op_mod (pe_op op_add (pe_op op_fdiv (pv 4) pe_int) (pe_op op_mul (pv 6) (pe_op op_add (pe_op op_mul pe_int (pe_op op_mod (pv 4) pe_int)) pe_int))) pe_int)))
    (pss_cons (ps_par (i := 7) (j := 8) (by rfl) sc_law_program.nd rfl rfl (by decide) rfl rfl (pa_cons (pe_lst (pa_cons (pe_ix ix_list (pe_lst (pa_cons pe_int (pa_cons pe_int (pa_cons pe_int pa_nil)))) (pe_op op_mod (pe_op op_fdiv (pv 3) pe_int) pe_int) (fun _ _ => rfl)) pa_nil)) (pa_cons (pe_tup pa_nil) pa_nil)) (by rfl))
    (pss_cons (ps_for PassesOwn.never rfl (pi_range1 rfl T.n_range (pa_cons (pe_op op_add pe_int (pe_op op_mod (pe_op op_fdiv (pv 3) pe_int) pe_int)) pa_nil)) (pg_name (i := 6) sc_law_program.nd rfl (Or.inl rfl))
    (pss_one (ps_set (i := 8) sc_law_program.nd rfl (Or.inl rfl) (pe_op op_catA (pv 8) (pe_u c_law_steps hr (by omega) rfl (pa_cons (pv 0) (pa_cons (pv 1) (pa_cons (pv 7) (pa_cons (pe_ix ix_list (pe_lst (pa_cons pe_int (pa_cons pe_int (pa_cons pe_int pa_nil)))) (pe_op op_mod (pe_op op_fdiv (pv 3) pe_int) pe_int) (fun _ _ => rfl)) (pa_cons (pv 5) (pa_cons (pv 2) pa_nil)))))))))))
    (pss_one (ps_ret (pv 8)))))))
    , ?_⟩
  obtain ⟨_, a, sp, mn, ns, k, rfl, hsc, hns, hsp, hmn, hne, hk, q⟩ := h
  refine q_twoCells (K := K) (i := 3) (j := 4) rfl rfl hsc hns hsp (by omega) fun n m H1 hn hm f1 h1 => ?_
  have hit := it_rng (K := K) (σ := [some (.ref a), some (.ref sp), some (.ref mn), some (.int (n : Int)), some (.int (m : Int)), none, none, none, none]) (H := H1) (eda_cons (ed_is (ed_add (ed_int (i := 2)) (ed_mod (ed_var (i := 3) rfl (.int (n : Int))) (ed_int (i := 6)) (by decide))) (show PyData.int (2 + (n : Int) % 6) = .int ((2 + n % 6 : Nat) : Int) from congrArg PyData.int (by omega))) eda_nil) (by omega) (by omega)
  have hlc := edl_lc (g := gName 6) (tt := tYes) (vs := [6]) (te := tOp (rI (fun _ j => 0 < j) fun i j => .int (i % j)) (tOp (rI0 fun i j => .int (i + j)) (tOp (rI CDiv fun i j => .int (i / j)) (tVar 4) (tC (.int 32))) (tOp (rI CMul fun i j => .int (i * j)) (tVar 6) (tOp (rI0 fun i j => .int (i + j)) (tOp (rI CMul fun i j => .int (i * j)) (tC (.int 2)) (tOp (rI (fun _ j => 0 < j) fun i j => .int (i % j)) (tVar 4) (tC (.int 16)))) (tC (.int 1))))) (tC (.int 32))) (fun _ => true) (poolX m) hit (by rw [List.length_map, List.length_range]; omega) (fun d hd _ => by
      obtain ⟨i, _, rfl⟩ := List.mem_map.mp hd
      rfl) (fun i d v H3 e3 hi hd => by
      have hmm := List.mem_of_getElem? hi
      obtain ⟨j, hj, rfl⟩ := List.mem_map.mp hmm
      have hj8 : j < 8 := by
        rw [List.mem_range] at hj
        omega
      refine ⟨_, tk_one _, rfl, et_yes, fun _ => ?_⟩
      refine ed_is (ed_mod (ed_add (ed_fdiv (ed_var (i := 4) rfl (.int (m : Int))) (ed_int (i := 32)) ⟨by decide, by decide⟩) (ed_mul (ed_var (i := 6) rfl hd) (ed_add (ed_mul (ed_int (i := 2)) (ed_mod (ed_var (i := 4) rfl (.int (m : Int))) (ed_int (i := 16)) (by decide)) (.inl ⟨by decide, by decide⟩)) (ed_int (i := 1))) (.inl ⟨by omega, by omega⟩))) (ed_int (i := 32)) (by decide)) ?_
      show PyData.int _ = PyData.int ((poolOf m j : Nat) : Int)
      unfold poolOf
      congr 1)
  rw [List.filter_eq_self.mpr (fun _ _ => rfl), List.map_map] at hlc
  have hlen : ((2 + n % 6 : Nat) : Int).toNat = 2 + n % 6 := by omega
  rw [hlen] at hlc
  have hpool : ((List.range (2 + n % 6)).map (poolX m ∘ fun (i : Nat) => PyData.int (i : Int))) = (((List.range (2 + n % 6)).map (poolOf m)).map fun (n : Nat) => (n : Int)).map PyData.int := by
    rw [List.map_map, List.map_map]
    rfl
  rw [hpool] at hlc
  refine qd_asgL hlc fun pl xs H2 hpl e2 hx hxs => ?_
  obtain rfl := dps_ints hxs
  have c6 : ∀ (x y z : Int) {σ : L2.St} {H3 : Hp} (j : Nat), σ[3]? = some (some (.int (n : Int))) → 0 < j → j < 100000 → ED K (tOp (rIxL K) (tLst (tCons (tC (.int x)) (tCons (tC (.int y)) (tCons (tC (.int z)) tNil)))) (tOp (rI (fun _ j => 0 < j) fun i j => .int (i % j)) (tOp (rI CDiv fun i j => .int (i / j)) (tVar 3) (tC (.int (j : Int)))) (tC (.int 3)))) σ H3 (.int ([x, y, z].getD (n / j % 3) 0)) := fun x y z σ H3 j h h0 h1 =>
    ed_ixL (ds := [x, y, z].map PyData.int) (ed_ofL (edl_lst (eda_cons ed_int (eda_cons ed_int (eda_cons ed_int eda_nil))) (Nat.le_of_ble_eq_true rfl))) (ed_mod (ed_fdiv (ed_var h (.int _)) ed_int ⟨by omega, by omega⟩) (ed_int (i := 3)) (by decide)) (by
      rw [← Int.natCast_ediv, show (3 : Int) = ((3 : Nat) : Int) from rfl, ← Int.natCast_emod]
      exact int_at (Nat.mod_lt _ (by decide)))
  obtain ⟨r, hr0, hr40⟩ : ∃ r : Nat, [(6 : Int), 15, 40].getD (n / 6 % 3) 0 = (r : Int) ∧ r ≤ 40 := by
    have h3 : n / 6 % 3 < 3 := Nat.mod_lt _ (by decide)
    match n / 6 % 3, h3 with
    | 0, _ => exact ⟨6, rfl, by decide⟩
    | 1, _ => exact ⟨15, rfl, by decide⟩
    | 2, _ => exact ⟨40, rfl, by decide⟩
  obtain ⟨dp, hd0, hd1, hd7⟩ : ∃ dp : Nat, [(2 : Int), 3, 7].getD (n / 90 % 3) 0 = (dp : Int) ∧ 1 ≤ dp ∧ dp ≤ 7 := by
    have h3 : n / 90 % 3 < 3 := Nat.mod_lt _ (by decide)
    match n / 90 % 3, h3 with
    | 0, _ => exact ⟨2, rfl, by decide, by decide⟩
    | 1, _ => exact ⟨3, rfl, by decide, by decide⟩
    | 2, _ => exact ⟨7, rfl, by decide, by decide⟩
  refine q_parLT (K := K) (i := 7) (j := 8) (ds := [.int (r : Int)]) (d := .tuple []) (edl_lst (eda_cons (ed_is (c6 6 15 40 6 rfl (by decide) (by decide)) (congrArg PyData.int hr0)) eda_nil) (Nat.le_of_ble_eq_true rfl)) (fun _ _ => ed_tup eda_nil (Nat.zero_le _)) fun rm ys fv H3 hrm e3 hy hys hfv => ?_
  obtain rfl := dps_ints (ns := [(r : Int)]) hys
  have e13 := e2.trans e3
  have hrm1 := fresh_back e2 hrm
  have nrs : rm ≠ sp := fun h => by rw [h, h1] at hrm1; cases hrm1
  have hmn1 : H1 mn = some (.lst (menuL.map V.str)) := f1 _ _ hmn fun h => hne (List.mem_singleton.mp h)
  have nrm : rm ≠ mn := fun h => by rw [h, hmn1] at hrm1; cases hrm1
  have npl : pl ≠ sp := fun h => by rw [h, h1] at hpl; cases hpl
  have nplr : pl ≠ rm := fun h => by rw [← h, hx] at hrm; cases hrm
  have plen : ((List.range (2 + n % 6)).map (poolOf m)).length = 2 + n % 6 := by rw [List.length_map, List.length_range]
  have G3 : Gx K H3 a sp rm pl mn ns ((List.range (2 + n % 6)).map (poolOf m)) (k + 2) r := ⟨((hsc.fr f1).add hrm1).fr (Fr.ex e13), hns, e13 _ _ h1, hy, Ne.symm nrs, e3 _ _ hx, (by simp [npl, nplr]), by rw [plen]; omega, by rw [plen]; omega, fun b hb => by
    obtain ⟨i, _, rfl⟩ := List.mem_map.mp hb
    exact Nat.mod_lt _ (by decide), e13 _ _ hmn1, by simp [hne, Ne.symm nrm]⟩
  have hrmH : H rm = none := by
    cases e : H rm with
    | none => rfl
    | some o => rw [f1 rm o e (fun h => nrs (List.mem_singleton.mp h))] at hrm1; cases hrm1
  have toH : ∀ {H' : Hp}, Fr [sp, rm] H3 H' → Fr [sp] H H' := fun {H'} f b o hb hn => by
    have hb1 := f1 b o hb hn
    have hbr : b ≠ rm := ne_of_none hb1 hrm1
    exact f b o (e13 _ _ hb1) fun h => by
      rcases List.mem_cons.mp h with h | h
      · exact hn (List.mem_singleton.mpr h)
      · exact hbr (List.mem_singleton.mp h)
  have hcnt : EDA K (tCons (tOp (rI0 fun i j => .int (i + j)) (tC (.int 1)) (tOp (rI (fun _ j => 0 < j) fun i j => .int (i % j)) (tOp (rI CDiv fun i j => .int (i / j)) (tVar 3) (tC (.int 18))) (tC (.int 5)))) tNil) [some (.ref a), some (.ref sp), some (.ref mn), some (.int (n : Int)), some (.int (m : Int)), some (.ref pl), none, some (.ref rm), some fv] H3 [.int ((1 + n / 18 % 5 : Nat) : Int)] := eda_cons (ed_is (ed_add (ed_int (i := 1)) (ed_mod (ed_fdiv (ed_var (i := 3) rfl (.int (n : Int))) (ed_int (i := 18)) ⟨by decide, by decide⟩) (ed_int (i := 5)) (by decide))) (congrArg PyData.int (by omega))) eda_nil
  refine q_forR1 (eva_i hcnt) (by omega) (fun i σ' H' => ∃ (v6 : Option V) (v : V) (p : P) (k' r' : Nat), σ' = [some (.ref a), some (.ref sp), some (.ref mn), some (.int (n : Int)), some (.int (m : Int)), some (.ref pl), v6, some (.ref rm), some v] ∧ Fr [sp, rm] H3 H' ∧ H' sp = some (.lst [.int (k' : Int)]) ∧ H' rm = some (.lst [.int (r' : Int)]) ∧ Dp K H' v (.tuple (progD p)) ∧ p.ok 7 ∧ p.size + r' ≤ r ∧ r' ≤ r ∧ k' + 4 * r' ≤ k + 2 + i + 4 * r)
    (fun H4 e4 => ⟨none, fv, .nil, k + 2, r, rfl, Fr.ex e4, e4 _ _ G3.hsp, e4 _ _ G3.hrm, hfv.ex e4, trivial, by show 0 + r ≤ r; omega, Nat.le_refl _, Nat.le_refl _⟩) ?_ ?_
  · rintro i σ' H' hi ⟨v6, v, p, k', r', rfl, f4, hs4, hm4, hv, hp, hps, hrr, hkk⟩
    have G4 := G3.to f4 hs4 hm4
    refine q_asgVx ?_
    refine ⟨_, rfl, ?_⟩
    refine q_stepsU (K := K) (dp := dp) (ev_var rfl) (ev_var rfl) (ev_var rfl) (ed_is (c6 2 3 7 90 rfl (by decide) (by decide)) (congrArg PyData.int hd0)) (ev_var rfl) (ev_var rfl) hd1 hd7 G4 (by omega) fun v2 H5 p2 k2 r2 o1 o2 o3 o4 o5 f5 o6 o7 => ?_
    have hv5 := hv.tx (G4.tx f5) (tdat_prog p)
    refine r_cat hv5 o5 (by rw [progD_len, progD_len]; have := len_size p; have := len_size p2; omega) fun v3 H6 e6 hv6 => ?_
    refine ⟨_, v3, p.app p2, k2, r2, rfl, (f4.trans f5).trans (Fr.ex e6), e6 _ _ o6, e6 _ _ o7, by rw [progD_app]; exact hv6, LB.P.ok_app p p2 hp (LB.P.ok_mono p2 hd7 o1), by rw [size_app]; omega, by omega, by omega⟩
  · rintro σ' H' ⟨v6, v, p, k', r', rfl, f4, hs4, hm4, hv, hp, hps, hrr, hkk⟩
    exact ⟨_, rfl, q v H' p k' hp (by omega) (by omega) hv (toH f4) hs4⟩
end
end LW
namespace LW
open PySem PySem.Spec PyProof.Rows L2 Evl
open LB (Deed Lf P Hd S Mk Co Ev StOk)
def sixth (n : Nat) : PyData → PyData
  | .int p => .int (((n / p.toNat % 16 : Nat) : Int))
  | d => d
def sixL (n : Nat) : List Int := [1, 16, 256, 4096, 65536, 1048576].map fun (p : Nat) => ((n / p % 16 : Nat) : Int)
def tabX (ws : List Int) : PyData → PyData
  | .int i => .tuple (((ws.drop (32 + 16 * i.toNat)).take 16).map PyData.int)
  | d => d
def wOf (ws : List Int) : W2 := (ws.take 32, (List.range 4).map fun k => (ws.drop (32 + 16 * k)).take 16)
theorem wOf_good {ws : List Int} (hl : ws.length = 96) (hw : ∀ i ∈ ws, LB.Wd i) : LB.Good (wOf ws).1 (wOf ws).2 where
  n := by show (ws.take 32).length = 32; rw [List.length_take]; omega
  w := fun i h => hw i (List.mem_of_mem_take h)
  tn := by show ((List.range 4).map _).length = 4; simp
  tw := fun t h => by
    obtain ⟨k, hk, rfl⟩ := List.mem_map.mp h
    have : k < 4 := by simpa using hk
    exact ⟨by rw [List.length_take, List.length_drop]; omega, fun i h => hw i (List.mem_of_mem_drop (List.mem_of_mem_take h))⟩
section
variable {Pg : Program} {w : World} {K : PySem.W.Frag} {mg : Str → Option Value} {base : Heap} {dF dB aSt aOt aMm C TL : Addr}
abbrev s_law_world : Stmt := top 69
theorem sc_law_world : FnScope ["_law_cells", "_law_spot", "_law_words", "_law_k", "_law_n", "_law_part", "_law_tables"] ["_law_cells", "_law_spot"] (defScope s_law_world) := ⟨rfl, rfl, rfl, by decide +kernel, rfl, by decide +kernel, by decide +kernel⟩
def spWorld (K : PySem.W.Frag) : Sp := fun vs H Q _ => vs.length = 2 ∧ ∃ (a sp : Addr) (ns : List Int) (k : Nat), vs = [.ref a, .ref sp] ∧ Scr K H [sp] a (ns.map V.int) ∧ ns.length ≤ 63 ∧ H sp = some (.lst [.int (k : Int)]) ∧ k ≤ 80000 ∧
  ∀ x H' (v : W2) (k' : Nat), LB.Good v.1 v.2 → k' ≤ k + 16 → Dp K H' x (wD v) → Fr [sp] H H' → H' sp = some (.lst [.int (k' : Int)]) → Q x H'
theorem c_law_world (D : Df K mg "_law_world" s_law_world ["_law_cells", "_law_spot"]) (T : Txt K mg w dF dB aSt aOt aMm) (c_law_cell : Cl Pg w K mg base 1 "_law_cell" (spCell K)) : Cl Pg w K mg base 2 "_law_world" (spWorld K) := by
  refine D.cl sc_law_world (fun vs H Q E h => h.1) (fun f cdv A outer s H vs Q E hr h => ?_)
  refine ⟨_, (pss_cons (ps_set (i := 2) sc_law_world.nd rfl (Or.inr rfl) (pe_lst pa_nil))
    (pss_cons (ps_for PassesOwn.never rfl (pi_range1 rfl T.n_range (pa_cons pe_int pa_nil)) (pg_name (i := 3) sc_law_world.nd rfl (Or.inl rfl))
    (pss_cons (ps_set (i := 4) sc_law_world.nd rfl (Or.inr rfl) (pe_u c_law_cell hr (by omega) rfl (pa_cons (pv 0) (pa_cons (pv 1) pa_nil))))
    (pss_one (ps_set (i := 2) sc_law_world.nd rfl (Or.inr rfl) (pe_op op_cat (pv 2) (pe_lc (own := [("_law_part", 5)]) (g := (gName 5)) (tt := tYes) (by rfl) sc_law_world.nd (pi_tup (pe_tup (pa_cons pe_int (pa_cons pe_int (pa_cons pe_int (pa_cons pe_int (pa_cons pe_int (pa_cons pe_int pa_nil)))))))) (blkOk_by (own := [("_law_part", 5)]) (N := ["_law_cells", "_law_spot", "_law_words", "_law_k", "_law_n", "_law_part", "_law_tables"]) (sc := defScope s_law_world) (by decide +kernel)) (fun _ _ _ _ _ => (pg_name (i := 5) sc_law_world.nd rfl (Or.inl rfl))) (fun _ _ _ _ _ => pts_nil) (fun _ _ _ _ _ => (pe_op op_mod (pe_op op_fdiv (pv 4) (pv 5)) pe_int))))))))
    (pss_cons (ps_set (i := 6) sc_law_world.nd rfl (Or.inl rfl) (pe_tupleOf rfl T.n_tuple (pe_lc (own := [("_law_k", 3)]) (g := (gName 3)) (tt := tYes) (by rfl) sc_law_world.nd (pi_range1 rfl T.n_range (pa_cons pe_int pa_nil)) (blkOk_by (own := [("_law_k", 3)]) (N := ["_law_cells", "_law_spot", "_law_words", "_law_k", "_law_n", "_law_part", "_law_tables"]) (sc := defScope s_law_world) (by decide +kernel)) (fun _ _ _ _ _ => (pg_name (i := 3) sc_law_world.nd rfl (Or.inl rfl))) (fun _ _ _ _ _ => pts_nil) (fun _ _ _ _ _ => (pe_tupleOfK K rfl T.n_tuple (pe_slice (sl_listK K) (pv 2) (po_some (pe_op op_add pe_int (pe_op op_mul pe_int (pv 3)))) (po_some (pe_op op_add pe_int (pe_op op_mul pe_int (pv 3))))))))))
    (pss_one (ps_ret (pe_tup (pa_cons (pe_tupleOf rfl T.n_tuple (pe_slice sl_list (pv 2) po_none (po_some pe_int))) (pa_cons (pv 6) pa_nil))))))))
    , ?_⟩
  obtain ⟨_, a, sp, ns, k, rfl, hsc, hns, hsp, hk, q⟩ := h
  refine qd_asgL (K := K) (edl_lst eda_nil (Nat.zero_le _)) fun l0 xs0 H1 hl0 e1 hx0 hxs0 => ?_
  obtain rfl : xs0 = [] := by cases hxs0; rfl
  have nl0 : l0 ≠ sp := fun h => by rw [h, hsp] at hl0; cases hl0
  refine q_forR1 (n := 16) (eva_i (eda_cons (ed_int (K := K) (i := 16)) eda_nil)) (by decide) (fun i σ' H' => ∃ (l : Addr) (ws : List Int) (v3 v4 : Option V), σ' = [some (.ref a), some (.ref sp), some (.ref l), v3, v4, none, none] ∧ l ≠ sp ∧ H' l = some (.lst (ws.map V.int)) ∧ ws.length = 6 * i ∧ (∀ j ∈ ws, LB.Wd j) ∧ Fr [sp] H H' ∧ H' sp = some (.lst [.int ((k + i : Nat) : Int)]))
    (fun H2 e2 => ⟨l0, [], none, none, rfl, nl0, e2 _ _ hx0, rfl, (fun _ h => nomatch h), Fr.ex (e1.trans e2), (e1.trans e2) _ _ hsp⟩) ?_ ?_
  · rintro i σ' H' hi ⟨l, ws, v3, v4, rfl, nl, hl, hwl, hww, f, hs⟩
    refine q_asgV ?_
    refine q_cell (K := K) (a := a) (sp := sp) (ev_var rfl) (ev_var rfl) (hsc.fr f) hns hs (by omega) fun n H2 hn f2 hs2 => ?_
    have hl2 := f2 _ _ hl fun h => nl (List.mem_singleton.mp h)
    have hlc := edl_lc (K := K) (H := H2) (g := gName 5) (tt := tYes) (vs := [5]) (te := tOp (rI (fun _ j => 0 < j) fun i j => .int (i % j)) (tOp (rI CDiv fun i j => .int (i / j)) (tVar 4) (tVar 5)) (tC (.int 16))) (fun _ => true) (sixth n) (it_tup (σ := [some (.ref a), some (.ref sp), some (.ref l), some (.int (i : Int)), some (.int (n : Int)), none, none]) (ds := [.int 1, .int 16, .int 256, .int 4096, .int 65536, .int 1048576]) (ed_tup (eda_cons ed_int (eda_cons ed_int (eda_cons ed_int (eda_cons ed_int (eda_cons ed_int (eda_cons ed_int eda_nil)))))) (Nat.le_of_ble_eq_true rfl))) (by decide) (fun d hd _ => by
        simp only [List.mem_cons, List.not_mem_nil, or_false] at hd
        rcases hd with rfl | rfl | rfl | rfl | rfl | rfl <;> rfl) (fun j d v H3 e3 hj hd => by
        have hmm := List.mem_of_getElem? hj
        obtain ⟨part, hp0, hp1, rfl⟩ : ∃ part : Nat, 0 < part ∧ part ≤ 1048576 ∧ d = .int (part : Int) := by
          simp only [List.mem_cons, List.not_mem_nil, or_false] at hmm
          rcases hmm with rfl | rfl | rfl | rfl | rfl | rfl
          · exact ⟨1, by decide, by decide, rfl⟩
          · exact ⟨16, by decide, by decide, rfl⟩
          · exact ⟨256, by decide, by decide, rfl⟩
          · exact ⟨4096, by decide, by decide, rfl⟩
          · exact ⟨65536, by decide, by decide, rfl⟩
          · exact ⟨1048576, by decide, by decide, rfl⟩
        exact ⟨_, tk_one _, rfl, et_yes, fun _ => ed_is (ed_mod (ed_fdiv (ed_var (i := 4) rfl (.int (n : Int))) (ed_var (i := 5) rfl hd) ⟨by omega, by omega⟩) (ed_int (i := 16)) (by decide)) (by
          show PyData.int _ = PyData.int ((n / part % 16 : Nat) : Int)
          rw [Int.natCast_emod, Int.natCast_ediv]
          rfl)⟩)
    rw [List.filter_eq_self.mpr (fun _ _ => rfl)] at hlc
    have hsix : [PyData.int 1, .int 16, .int 256, .int 4096, .int 65536, .int 1048576].map (sixth n) = (sixL n).map PyData.int := rfl
    rw [hsix] at hlc
    refine sd_asgL (K := K) (ds := (ws ++ sixL n).map PyData.int) (by
      rw [List.map_append]
      exact edl_catV (ev_var (i := 2) rfl) hl2 (ints_dps ws) hlc (by rw [List.length_map, hwl]; show _ + 6 ≤ _; omega)) fun l2 ys H3 hl3 e3 hy hys => ?_
    obtain rfl := dps_ints hys
    refine ⟨l2, ws ++ sixL n, _, _, rfl, (fun h => by rw [h, hs2] at hl3; cases hl3), hy, by rw [List.length_append, hwl]; show _ + 6 = _; omega, fun j hj => ?_, (f.trans f2).trans (Fr.ex e3), e3 _ _ hs2⟩
    rcases List.mem_append.mp hj with hj | hj
    · exact hww j hj
    · obtain ⟨p, _, rfl⟩ := List.mem_map.mp hj
      exact ⟨by omega, by have := Nat.mod_lt (n / p) (show 0 < 16 by decide); omega⟩
  · rintro σ' H' ⟨l, ws, v3, v4, rfl, nl, hl, hwl, hww, f, hs⟩
    have hwl : ws.length = 96 := hwl
    have hL : ∀ {σ : L2.St} {H2 : Hp}, σ[2]? = some (some (.ref l)) → Ex H' H2 → ED K (tVar 2) σ H2 (.list (ws.map PyData.int)) := fun hσ e => ed_var hσ (.lst (sq_of (e _ _ hl)) (ints_dps ws))
    have hit := it_rng (K := K) (σ := [some (.ref a), some (.ref sp), some (.ref l), v3, v4, none, none]) (H := H') (eda_cons (ed_int (i := 4)) eda_nil) (by decide) (by decide)
    have hlc := edl_lc (g := gName 3) (tt := tYes) (vs := [3]) (te := tThen (tSl (rSlL K) (tVar 2) (tPart (tOp (rI0 fun i j => .int (i + j)) (tC (.int 32)) (tOp (rI CMul fun i j => .int (i * j)) (tC (.int 16)) (tVar 3)))) (tPart (tOp (rI0 fun i j => .int (i + j)) (tC (.int 48)) (tOp (rI CMul fun i j => .int (i * j)) (tC (.int 16)) (tVar 3))))) (kTup K)) (fun _ => true) (tabX ws) hit (by simp) (fun d hd _ => by
        obtain ⟨i, _, rfl⟩ := List.mem_map.mp hd
        exact tdat_tup (tdats_ints _)) (fun i d v H3 e3 hi hd => by
        have hmm := List.mem_of_getElem? hi
        obtain ⟨j, hj, rfl⟩ := List.mem_map.mp hmm
        have hj4 : j < 4 := by simpa using hj
        refine ⟨_, tk_one _, rfl, et_yes, fun _ => ?_⟩
        have h16 : ∀ (c : Nat) {σ : L2.St} {H4 : Hp}, σ[3]? = some (some v) → Dp K H4 v (.int (j : Int)) → ED K (tOp (rI0 fun i j => .int (i + j)) (tC (.int (c : Int))) (tOp (rI CMul fun i j => .int (i * j)) (tC (.int 16)) (tVar 3))) σ H4 (.int ((c + 16 * j : Nat) : Int)) := fun c σ H4 hσ hv => ed_is (ed_add ed_int (ed_mul (ed_int (i := 16)) (ed_var hσ hv) (.inl ⟨by decide, by decide⟩))) (congrArg PyData.int (by omega))
        refine ed_is (ed_tupOf (edl_slL (hL rfl e3) (eo_d (h16 32 rfl hd)) (eo_d (h16 48 rfl hd)))) ?_
        rw [cutTwo _ _ _ (by omega) (by rw [List.length_map]; omega), show 48 + 16 * j - (32 + 16 * j) = 16 by omega, ← List.map_drop, ← List.map_take]
        rfl)
    rw [List.filter_eq_self.mpr (fun _ _ => rfl), List.map_map] at hlc
    refine qd_asg (K := K) (d := .tuple ((wOf ws).2.map fun t => .tuple (t.map PyData.int))) (by
      have h := ed_tupOf hlc
      unfold wOf
      rw [List.map_map]
      exact h) fun vt H2 e2 hvt => ?_
    refine sd_ret (K := K) (d := wD (wOf ws)) (ed_tup (eda_cons (ed_is (ed_tupOf (edl_slL (hL rfl e2) eo_none (eo_c (i := 32)))) (by rw [show (32 : Int) = ((32 : Nat) : Int) from rfl, cutUpto, ← List.map_take]; rfl)) (eda_cons (ed_var (i := 6) rfl hvt) eda_nil)) (Nat.le_of_ble_eq_true rfl)) fun x H3 e3 hx => ?_
    exact q x H3 (wOf ws) (k + 16) (wOf_good hwl hww) (Nat.le_refl _) hx (f.trans (Fr.ex (e2.trans e3))) ((e2.trans e3) _ _ hs)
abbrev s_law_make : Stmt := top 70
theorem sc_law_make : FnScope ["_law_cells", "_law_spot", "_law_n", "_law_found"] ["_law_cells", "_law_spot"] (defScope s_law_make) := ⟨rfl, rfl, rfl, by decide +kernel, rfl, by decide +kernel, by decide +kernel⟩
def spMake (K : PySem.W.Frag) : Sp := fun vs H Q _ => vs.length = 2 ∧ ∃ (a sp : Addr) (ns : List Int) (k : Nat), vs = [.ref a, .ref sp] ∧ Scr K H [sp] a (ns.map V.int) ∧ ns.length ≤ 63 ∧ H sp = some (.lst [.int (k : Int)]) ∧ k ≤ 80000 ∧
  ∀ x H' (m : Mk) (k' : Nat), MkOk m → k' ≤ k + 1 → Dp K H' x (makeD m) → Fr [sp] H H' → H' sp = some (.lst [.int (k' : Int)]) → Q x H'
theorem c_law_make (D : Df K mg "_law_make" s_law_make ["_law_cells", "_law_spot"]) (T : Txt K mg w dF dB aSt aOt aMm) (c_law_cell : Cl Pg w K mg base 1 "_law_cell" (spCell K)) : Cl Pg w K mg base 2 "_law_make" (spMake K) := by
  refine D.cl sc_law_make (fun vs H Q E h => h.1) (fun f cdv A outer s H vs Q E hr h => ?_)
  refine ⟨_, (pss_cons (ps_set (i := 2) sc_law_make.nd rfl (Or.inl rfl) (pe_u c_law_cell hr (by omega) rfl (pa_cons (pv 0) (pa_cons (pv 1) pa_nil))))
    (pss_cons (ps_set (i := 3) sc_law_make.nd rfl (Or.inl rfl) (pe_tup (pa_cons (pe_op op_mod (pe_op op_fdiv (pv 2) pe_int) pe_int) (pa_cons (pe_op op_mod (pe_op op_fdiv (pv 2) pe_int) pe_int) (pa_cons (pe_op op_mod (pe_op op_fdiv (pv 2) pe_int) pe_int) (pa_cons (pe_op op_mod (pe_op op_fdiv (pv 2) pe_int) pe_int) (pa_cons (pe_op op_mod (pe_op op_fdiv (pv 2) pe_int) pe_int) pa_nil)))))))
    (pss_one (ps_ret (pe_ix ix_list (pe_lst (pa_cons (pv 3) (pa_cons (pv 3) (pa_cons (pv 3) (pa_cons (pv 3) (pa_cons (pe_tup (pa_cons pe_int (pa_cons pe_int (pa_cons pe_int (pa_cons pe_int (pa_cons pe_int pa_nil)))))) (pa_cons (pe_tup (pa_cons pe_int (pa_cons pe_int (pa_cons pe_int (pa_cons pe_int (pa_cons pe_int pa_nil)))))) pa_nil))))))) (pe_op op_mod (pv 2) pe_int) (fun _ _ => rfl))))))
    , ?_⟩
  obtain ⟨_, a, sp, ns, k, rfl, hsc, hns, hsp, hk, q⟩ := h
  refine q_asgV ?_
  refine q_cell (K := K) (a := a) (sp := sp) (ev_var rfl) (ev_var rfl) hsc hns hsp (by omega) fun n H2 hn f2 hs2 => ?_
  have part : ∀ (p l : Nat) {σ : L2.St} {H3 : Hp}, σ[2]? = some (some (.int (n : Int))) → 0 < p → p < 1000000 → 0 < l → ED K (tOp (rI (fun _ j => 0 < j) fun i j => .int (i % j)) (tOp (rI CDiv fun i j => .int (i / j)) (tVar 2) (tC (.int (p : Int)))) (tC (.int (l : Int)))) σ H3 (nD (n / p % l)) := fun p l σ H3 h h0 h1 h2 => ed_is (ed_mod (ed_fdiv (ed_var h (.int _)) ed_int ⟨by omega, by omega⟩) ed_int (by omega)) (by rw [← Int.natCast_ediv, ← Int.natCast_emod])
  refine qd_asg (K := K) (d := makeD ⟨n / 6 % 5, n / 30 % 10, n / 300 % 10, n / 3000 % 5, n / 15000 % 2⟩) (ed_tup (eda_cons (part 6 5 rfl (by decide) (by decide) (by decide)) (eda_cons (part 30 10 rfl (by decide) (by decide) (by decide)) (eda_cons (part 300 10 rfl (by decide) (by decide) (by decide)) (eda_cons (part 3000 5 rfl (by decide) (by decide) (by decide)) (eda_cons (part 15000 2 rfl (by decide) (by decide) (by decide)) eda_nil))))) (Nat.le_of_ble_eq_true rfl)) fun vf H3 e3 hvf => ?_
  have mlt := fun (x y : Nat) (h : 0 < y) => Nat.mod_lt x h
  have okf : MkOk ⟨n / 6 % 5, n / 30 % 10, n / 300 % 10, n / 3000 % 5, n / 15000 % 2⟩ := ⟨by have := mlt (n / 6) 5 (by decide); show n / 6 % 5 ≤ 4; omega, by have := mlt (n / 30) 10 (by decide); show n / 30 % 10 ≤ 9; omega, by have := mlt (n / 300) 10 (by decide); show n / 300 % 10 ≤ 9; omega, by have := mlt (n / 3000) 5 (by decide); show n / 3000 % 5 ≤ 4; omega, by have := mlt (n / 15000) 2 (by decide); show n / 15000 % 2 ≤ 1; omega⟩
  obtain ⟨mm, hmm, hok⟩ : ∃ mm : Mk, ([makeD ⟨n / 6 % 5, n / 30 % 10, n / 300 % 10, n / 3000 % 5, n / 15000 % 2⟩, makeD ⟨n / 6 % 5, n / 30 % 10, n / 300 % 10, n / 3000 % 5, n / 15000 % 2⟩, makeD ⟨n / 6 % 5, n / 30 % 10, n / 300 % 10, n / 3000 % 5, n / 15000 % 2⟩, makeD ⟨n / 6 % 5, n / 30 % 10, n / 300 % 10, n / 3000 % 5, n / 15000 % 2⟩, makeD ⟨0, 0, 0, 0, 0⟩, makeD ⟨4, 9, 9, 4, 1⟩] : List PyData)[n % 6]? = some (makeD mm) ∧ MkOk mm := by
    have h6 : n % 6 < 6 := Nat.mod_lt _ (by decide)
    match n % 6, h6 with
    | 0, _ => exact ⟨_, rfl, okf⟩
    | 1, _ => exact ⟨_, rfl, okf⟩
    | 2, _ => exact ⟨_, rfl, okf⟩
    | 3, _ => exact ⟨_, rfl, okf⟩
    | 4, _ => exact ⟨_, rfl, ⟨by decide, by decide, by decide, by decide, by decide⟩⟩
    | 5, _ => exact ⟨_, rfl, ⟨by decide, by decide, by decide, by decide, by decide⟩⟩
  have vf3 : ∀ {H4 : Hp}, Ex H3 H4 → ED K (tVar 3) [some (.ref a), some (.ref sp), some (.int (n : Int)), some vf] H4 (makeD ⟨n / 6 % 5, n / 30 % 10, n / 300 % 10, n / 3000 % 5, n / 15000 % 2⟩) := fun e => ed_var (i := 3) rfl (hvf.ex e)
  refine sd_ret (K := K) (d := makeD mm) (ed_ixL (i := ((n % 6 : Nat) : Int)) (ed_ofL (edl_lst (eda_cons (vf3 (Ex.refl H3)) (eda_cons (vf3 (Ex.refl H3)) (eda_cons (vf3 (Ex.refl H3)) (eda_cons (vf3 (Ex.refl H3)) (eda_cons (ed_tup (eda_cons ed_int (eda_cons ed_int (eda_cons ed_int (eda_cons ed_int (eda_cons ed_int eda_nil))))) (Nat.le_of_ble_eq_true rfl)) (eda_cons (ed_tup (eda_cons ed_int (eda_cons ed_int (eda_cons ed_int (eda_cons ed_int (eda_cons ed_int eda_nil))))) (Nat.le_of_ble_eq_true rfl)) eda_nil)))))) (Nat.le_of_ble_eq_true rfl))) (ed_is (ed_mod (ed_var (i := 2) rfl (.int (n : Int))) (ed_int (i := 6)) (by decide)) (by rw [Int.natCast_emod]; rfl)) (atI_nat hmm)) fun x H4 e4 hx => ?_
  exact q x H4 mm (k + 1) hok (Nat.le_refl _) hx (f2.trans (Fr.ex (e3.trans e4))) ((e3.trans e4) _ _ hs2)
end
end LW
namespace LW
open PySem PySem.Spec PyProof.Rows L2 Evl
open LB (Deed Lf P Hd S Mk Co Ev StOk)
theorem rgc_two' (j b : Int) (h0 : 0 ≤ j) (hj : j < 1000) (hb : b = 2 * j + 1) : Builtin.Range.rangeSize 1 b 2 = j ∧ Builtin.Range.small 1 b 2 = true := by
  have hs : Builtin.Range.rangeSize 1 b 2 = j := by
    unfold Builtin.Range.rangeSize
    rw [if_pos (by decide)]
    split <;> omega
  refine ⟨hs, ?_⟩
  have f : ∀ i : Int, -10000 ≤ i → i ≤ 10000 → Builtin.Range.rangeFitsLong i = true := fun i h1 h2 => by
    unfold Builtin.Range.rangeFitsLong
    rw [Bool.and_eq_true, decide_eq_true_eq, decide_eq_true_eq]
    constructor <;> omega
  unfold Builtin.Range.small
  rw [hs]
  show (Builtin.Range.rangeFitsLong 1 && Builtin.Range.rangeFitsLong b && Builtin.Range.rangeFitsLong 2 && Builtin.Range.rangeFitsLong j && (j == 0 || if (2 : Int) > 0 then Builtin.Range.rangeFitsLong (b + (2 - 1)) else Builtin.Range.rangeFitsLong (b + (2 + 1)))) = true
  rw [f 1 (by decide) (by decide), f b (by omega) (by omega), f 2 (by decide) (by decide), f j (by omega) (by omega), if_pos (by decide), f (b + (2 - 1)) (by omega) (by omega)]
  simp
theorem rgc_two (j : Nat) (hj : j < 1000) : RgC 1 (((2 * j + 1 : Nat)) : Int) 2 j := by
  obtain ⟨h1, h2⟩ := rgc_two' (j : Int) (((2 * j + 1 : Nat)) : Int) (by omega) (by omega) (by omega)
  exact ⟨by decide, by decide, h2, h1⟩
/-- what an exception of a class asks of a clause -/
structure TLX (K : PySem.W.Frag) (mg : Str → Option Value) (TL : Addr) : Prop where
  g : mg "TooLong" = some (.ref TL)
  e : PySem.W.exmOne K (.ref TL) (.ref TL) = some true
section
variable {X : Cx} {k j : Nat} {x : Str} {sp : Sp} {p pos : Pos} {e : Expr} {es : List Expr} {t : TA} {W : WX}
theorem pe_uS (c : ClX X.prog X.w X.K X.mg X.base k x sp) (hr : Room j X.A) (hk : k ≤ j) (hg : Gl X x) (tk : Takes X W) (ha : PA X (e :: es) t)
    (hdb : (x == ("__debug__" : Str)) = false := by decide) (he : starEach (e :: es) X.env = (false, eval e X.env) :: starEach es X.env := by rfl) (hpl : (backTo pos (starEach es X.env)).any (·.1) = false := by rfl) :
    PE X (.Call (.Name x p) (e :: es) [] pos) (tCallS sp (WE W) t) := by
  obtain ⟨f, fd, ps, F, hm, kp, b⟩ := c.ex
  exact pe_callS F (hr.mono hk) hg hm kp b (fun σ => passAt tk σ) ha hdb he hpl
end
section
variable {K : PySem.W.Frag} {σ : L2.St} {H : Hp} {ta tb : TE} {d : PyData}
theorem edl_rep {n : Nat} (h : EDL K ta σ H [d]) (hn : n ≤ 10000) : EDL K (tOp rRep ta (tC (.int (n : Int)))) σ H (List.replicate n d) := fun H1 e Q q =>
  h H1 e _ fun p xs H2 hp e2 h2 hx => by
    obtain ⟨v, rfl, hv⟩ := dps1 hx
    have hrep : ∀ n : Nat, (List.replicate n [v]).flatten = List.replicate n v := fun n => by
      induction n with
      | zero => rfl
      | succ n ih => rw [List.replicate_succ, List.flatten_cons, ih]; rfl
    have hdp : ∀ (n : Nat) {H3 : Hp}, Dp K H3 v d → DpAll K H3 (List.replicate n v) (List.replicate n d) := fun n H3 hv => by
      induction n with
      | zero => exact .nil
      | succ n ih => exact .cons hv ih
    refine ⟨p, (n : Int), [v], rfl, rfl, h2, by omega, by omega, sz_of (by show 1 * ((n : Int)).toNat ≤ 100000; omega), fun t ht => ?_⟩
    rw [show ((n : Int)).toNat = n by omega, hrep]
    exact q t _ _ (fresh_back e2 ht) (e2.trans (Ex.new ht)) upd_same (hdp n (hv.ex (Ex.new ht)))
end
section
variable {Pg : Program} {w : World} {K : PySem.W.Frag} {mg : Str → Option Value} {base : Heap} {dF dB aSt aOt aMm C TL : Addr}
abbrev s_law_fits : Stmt := top 72
theorem sc_law_fits : FnScope ["_law_program_here", "_law_make_here", "_law_world_here", "_law_found"] ["_law_program_here", "_law_make_here", "_law_world_here"] (defScope s_law_fits) := ⟨rfl, rfl, rfl, by decide +kernel, rfl, by decide +kernel, by decide +kernel⟩
def R_fits (ds : List PyData) (d : PyData) : Prop := ∃ (p : P) (m : Mk) (v : W2), ds = [.tuple (progD p), makeD m, wD v] ∧ RunOk p m v ∧ d = .bool (decide (many m p v < 300))
theorem c_law_fits (D : Df K mg "_law_fits" s_law_fits ["_law_program_here", "_law_make_here", "_law_world_here"]) (T : Txt K mg w dF dB aSt aOt aMm) (TX : TLX K mg TL) (c_eventsX : ClX Pg w K mg base 32 "events" (spEvX K TL)) : Cl Pg w K mg base 33 "_law_fits" (spD K 3 R_fits) := by
  refine D.cl sc_law_fits (fun vs H Q E h => h.1) (fun f cdv A outer s H vs Q E hr h => ?_)
  refine ⟨_, (pss_cons (ps_set (i := 3) sc_law_fits.nd rfl (Or.inl rfl) (pe_op op_rep (pe_lst (pa_cons pe_non pa_nil)) pe_int))
    (pss_cons (ps_try_only rfl rfl ⟨rfl, by decide, .inl TX.g⟩ takes0 (fun W pn xe tk _ => (pss_one (ps_set (i := 3) sc_law_fits.nd rfl (Or.inl rfl) (pe_uS c_eventsX hr (by omega) rfl tk (pa_cons (pv 0) (pa_cons (pv 1) (pa_cons (pv 2) pa_nil))))))) (fun a oe cls d pn _ _ => (pss_one (ps_set (i := 3) sc_law_fits.nd rfl (Or.inl rfl) (pe_op op_rep (pe_lst (pa_cons pe_non pa_nil)) pe_int)))))
    (pss_one (ps_ret (pe_cmpR op_lt (pe_callB call_len_seq (by rfl) T.n_len (by decide +kernel) (pa_cons (pv 3) pa_nil)) pe_int (nomark _))))))
    , ?_⟩
  obtain ⟨_, ds, d, hds, ⟨p, m, v, rfl, R, rfl⟩, k⟩ := h
  obtain ⟨x, y, z, rfl, h1, h2, h3⟩ := dps3 hds
  refine qd_asgL (K := K) (ds := List.replicate 300 .none) (edl_rep (n := 300) (edl_lst (eda_cons ed_non eda_nil) (Nat.le_of_ble_eq_true rfl)) (by decide)) fun l0 xs0 H1 hl0 e1 hx0 hxs0 => ?_
  refine q_sq ?_
  -- the calls behind the try
  refine ⟨_, rfl, _, rfl, _, rfl, rfl, p, m, v, ?_, R, fun hm q xs H2 hq e2 hl hxs => ?_, fun hm H2 e2 => ?_⟩
  · exact .cons (h1.ex e1) (.cons (h2.ex e1) (.cons (h3.ex e1) .nil))
  · refine sd_ret (K := K) (d := .bool (decide (many m p v < 300))) (ed_is (ed_lt (ed_lenL (ed_var (i := 3) rfl (.lst (sq_of hl) hxs))) (ed_int (i := 300))) ?_) fun w H3 e3 => k w H3 ((e1.trans e2).trans e3)
    rw [List.length_map, LB.runS_len]
    show PyData.bool (decide ((many m p v : Int) < 300)) = _
    congr 1
    exact decide_eq_decide.mpr ⟨fun h => by omega, fun h => by omega⟩
  · refine ⟨true, TX.e, fun _ a ha => ?_, fun h => by cases h⟩
    refine sd_asgL (K := K) (ds := List.replicate 300 .none) (edl_rep (n := 300) (edl_lst (eda_cons ed_non eda_nil) (Nat.le_of_ble_eq_true rfl)) (by decide)) fun l3 xs3 H3 hl3 e3 hx3 hxs3 => ?_
    refine sd_ret (K := K) (d := .bool (decide (many m p v < 300))) (ed_is (ed_lt (ed_lenL (ed_var (i := 3) rfl (.lst (sq_of hx3) hxs3))) (ed_int (i := 300))) ?_) fun w H4 e4 => k w H4 (((e1.trans e2).trans e3).trans e4)
    rw [List.length_replicate]
    show PyData.bool (decide ((300 : Int) < 300)) = _
    congr 1
    exact decide_eq_decide.mpr ⟨fun h => by omega, fun h => by omega⟩
end
end LW
namespace LW
open PySem PySem.Spec PyProof.Rows L2 Evl
open LB (Deed Lf P Hd S Mk Co Ev StOk)
theorem inI (b : Int) : ∀ l : List Int, inV (.int b) (l.map V.int) = decide (b ∈ l)
  | [] => rfl
  | a :: l => by
    have ih := inI b l
    unfold inV at ih ⊢
    rw [List.map_cons, List.any_cons, ih]
    show ((a == b) || decide (b ∈ l)) = decide (b ∈ a :: l)
    by_cases h : a = b
    · simp [h]
    · have h2 : b ≠ a := fun e => h e.symm
      simp [h, h2]
theorem armOf_eq (h : Hd) (a : Nat) : LB.armOf h a = (hdArms h)[a]? := by
  cases h with
  | lf x => rfl
  | ite c p q => match a with
    | 0 => rfl
    | 1 => rfl
    | n + 2 => rfl
  | rnd c p => match a with
    | 0 => rfl
    | n + 1 => rfl
  | trn c p => match a with
    | 0 => rfl
    | n + 1 => rfl
theorem atH_cons {h h' : Hd} {a i : Nat} {r : List Nat} (e : LB.atH h (a :: i :: r) = some h') : ∃ q h2, (hdArms h)[a]? = some q ∧ q.heads[i]? = some h2 ∧ LB.atH h2 r = some h' := by
  unfold LB.atH at e
  rw [armOf_eq] at e
  cases e1 : (hdArms h)[a]? with
  | none => rw [e1] at e; cases e
  | some q =>
    rw [e1] at e
    cases e2 : q.heads[i]? with
    | none => simp only [e2] at e; cases e
    | some h2 => simp only [e2] at e; exact ⟨q, h2, rfl, e2, e⟩
theorem atH_even : ∀ {r : List Nat} {h h' : Hd}, LB.atH h r = some h' → ∃ j, r.length = 2 * j
  | [], _, _, _ => ⟨0, rfl⟩
  | [_], h, _, e => by cases h <;> cases e
  | a :: i :: r, h, h', e => by
    obtain ⟨q, h2, _, _, e3⟩ := atH_cons e
    obtain ⟨j, hj⟩ := atH_even e3
    exact ⟨j + 1, by simp only [List.length_cons, hj]; omega⟩
theorem arms_cut (h : Hd) : (h.isIf = true → cutD (hdD h) (some (-2)) none = (hdArms h).map fun p => .tuple (progD p)) ∧ (hdArms h ≠ [] → h.isIf = false → cutD (hdD h) (some (-1)) none = (hdArms h).map fun p => .tuple (progD p)) := by
  cases h with
  | lf x => exact ⟨(fun e => by cases e), fun e => (e rfl).elim⟩
  | ite c p q => exact ⟨fun _ => rfl, fun _ e => by cases e⟩
  | rnd c p => exact ⟨(fun e => by cases e), fun _ _ => rfl⟩
  | trn c p => exact ⟨(fun e => by cases e), fun _ _ => rfl⟩
theorem q_for3 {K : PySem.W.Frag} {σ : L2.St} {H : Hp} {D : Ends} {tu tz : TS} {g : TG} {tr : TA} {i j c : Int} {n : Nat} (q : EDA K tr σ H [.int i, .int j, .int c]) (hr : RgC i j c n) (Pv : Nat → L2.St → Hp → Prop) (h0 : ∀ H1, Ex H H1 → Pv 0 σ H1)
    (hs : ∀ k σ' H', k < n → Pv k σ' H' → g (.int (i + (k : Nat) * c)) σ' H' fun σ2 H2 => tu { D with nx := Pv (k + 1), ct := Pv (k + 1), bk := tz D } σ2 H2) (hd : ∀ σ' H', Pv n σ' H' → tz D σ' H') : tSeq (tFor (iRng3 tr) g tu) tz D σ H := s_for3 (D := { D with nx := tz D }) q hr Pv h0 hs hd
theorem drop_two {r : List Nat} {t : Nat} (h : 2 * t + 1 < r.length) : ∃ a i, r[2 * t]? = some a ∧ r[2 * t + 1]? = some i ∧ r.drop (2 * t) = a :: i :: r.drop (2 * (t + 1)) := by
  have h1 : 2 * t < r.length := by omega
  refine ⟨_, _, List.getElem?_eq_getElem h1, List.getElem?_eq_getElem h, ?_⟩
  rw [List.drop_eq_getElem_cons h1, List.drop_eq_getElem_cons h, show 2 * (t + 1) = 2 * t + 1 + 1 by omega]
section
variable {Pg : Program} {w : World} {K : PySem.W.Frag} {mg : Str → Option Value} {base : Heap} {dF dB aSt aOt aMm C TL : Addr}
abbrev s_law_at : Stmt := top 73
theorem sc_law_at : FnScope ["_law_program_here", "_law_path", "_law_step_here", "_law_k", "_law_arms"] ["_law_program_here", "_law_path"] (defScope s_law_at) := ⟨rfl, rfl, rfl, by decide +kernel, rfl, by decide +kernel, by decide +kernel⟩
def R_at (ds : List PyData) (d : PyData) : Prop := ∃ (p : P) (i : Nat) (r : List Nat) (h0 h : Hd), ds = [.tuple (progD p), pathD (i :: r)] ∧ p.heads[i]? = some h0 ∧ LB.atH h0 r = some h ∧ r.length ≤ 1000 ∧ d = .tuple (hdD h)
theorem c_law_at (D : Df K mg "_law_at" s_law_at ["_law_program_here", "_law_path"]) (T : Txt K mg w dF dB aSt aOt aMm) : Cl Pg w K mg base 1 "_law_at" (spD K 2 R_at) := by
  refine D.cl sc_law_at (fun vs H Q E h => h.1) (fun f cdv A outer s H vs Q E hr h => ?_)
  refine ⟨_, (pss_cons (ps_set (i := 2) sc_law_at.nd rfl (Or.inl rfl) (pe_ix ix_tup (pv 0) (pe_ix ix_tup (pv 1) pe_int (fun _ _ => rfl)) (fun _ _ => rfl)))
    (pss_cons (ps_for PassesOwn.never rfl (pi_range3 rfl T.n_range (pa_cons pe_int (pa_cons (pe_callB call_len_seq (by rfl) T.n_len (by decide +kernel) (pa_cons (pv 1) pa_nil)) (pa_cons pe_int pa_nil)))) (pg_name (i := 3) sc_law_at.nd rfl (Or.inl rfl))
    (pss_cons (ps_set (i := 4) sc_law_at.nd rfl (Or.inl rfl) (pe_ifExp (pt_cmpR op_eq (pe_ix ix_tup (pv 2) pe_int (fun _ _ => rfl)) pe_str (nomark _)) (pe_slice sl_tupA (pv 2) (po_some (pe_un un_neg pe_int)) po_none) (pe_slice sl_tupA (pv 2) (po_some (pe_un un_neg pe_int)) po_none)))
    (pss_one (ps_set (i := 2) sc_law_at.nd rfl (Or.inl rfl) (pe_ix ix_tup (pe_ix ix_tup (pv 4) (pe_ix ix_tup (pv 1) (pv 3) (fun _ _ => rfl)) (fun _ _ => rfl)) (pe_ix ix_tup (pv 1) (pe_op op_add (pv 3) pe_int) (fun _ _ => rfl)) (fun _ _ => rfl))))))
    (pss_one (ps_ret (pv 2)))))
    , ?_⟩
  obtain ⟨_, ds, d, hds, ⟨p, i, r, h0, h, rfl, hi, hat, hrl, rfl⟩, k⟩ := h
  obtain ⟨x, y, rfl, h1, h2⟩ := dps2 hds
  obtain ⟨j, hj⟩ := atH_even hat
  have pth : ∀ {σ : L2.St} {H1 : Hp} {te : TE} (l n : Nat), σ[1]? = some (some y) → Ex H H1 → ED K te σ H1 (nD l) → (i :: r)[l]? = some n → ED K (tOp (rIxT K) (tVar 1) te) σ H1 (nD n) := fun l n hσ e ht hl => ed_ixT (ed_var hσ (h2.ex e)) ht (atI_nat (by rw [List.getElem?_map, hl]; rfl))
  refine qd_asg (K := K) (d := .tuple (hdD h0)) (ed_ixT (i := (i : Int)) (ed_var (i := 0) rfl h1) (pth 0 i rfl (Ex.refl H) ed_int rfl) (atI_nat (by rw [progD_heads, List.getElem?_map, hi]; rfl))) fun v0 H1 e1 hv0 => ?_
  refine q_for3 (n := j) (eda_cons (ed_int (K := K) (i := 1)) (eda_cons (ed_lenT (ed_var (i := 1) rfl (h2.ex e1))) (eda_cons (ed_int (i := 2)) eda_nil))) (by
    rw [List.length_map, List.length_cons, hj]
    exact rgc_two j (by omega)) (fun t σ' H' => ∃ (ht : Hd) (v : V) (v3 v4 : Option V), σ' = [some x, some y, some v, v3, v4] ∧ Ex H H' ∧ Dp K H' v (.tuple (hdD ht)) ∧ LB.atH ht (r.drop (2 * t)) = some h) (fun H2 e2 => ⟨h0, v0, none, none, rfl, e1.trans e2, hv0.ex e2, hat⟩) ?_ ?_
  · rintro t σ' H' ht ⟨hh, v, v3, v4, rfl, e2, hv, hh2⟩
    obtain ⟨a, i2, ha, hi2, hdr⟩ := drop_two (r := r) (t := t) (by omega)
    rw [hdr] at hh2
    obtain ⟨q, h3, q1, q2, q3⟩ := atH_cons hh2
    have hne : hdArms hh ≠ [] := fun e => by rw [e] at q1; cases q1
    have hidx : (1 : Int) + (t : Nat) * 2 = ((2 * t + 1 : Nat) : Int) := by omega
    show tSeq _ _ _ [some x, some y, some v, some (.int (1 + (t : Nat) * 2)), v4] H'
    rw [hidx]
    obtain ⟨cA, cB⟩ := arms_cut hh
    refine qd_asg (K := K) (d := .tuple ((hdArms hh).map fun p => .tuple (progD p))) (ed_if (b := hh.isIf) (et_d (K := K) (ed_eqS (ed_ixT (ed_var (i := 2) rfl hv) (ed_int (i := 0)) (hdD_at0 hh)) (ed_c (.str "if")) (in_if hh))) (fun hb => ed_is (ed_slT (ed_var (i := 2) rfl hv) (eo_d (ed_neg (K := K) (ed_int (i := 2)))) eo_none) (congrArg PyData.tuple (cA hb))) (fun hb => ed_is (ed_slT (ed_var (i := 2) rfl hv) (eo_d (ed_neg (K := K) (ed_int (i := 1)))) eo_none) (congrArg PyData.tuple (cB hne hb)))) fun va H2 e3 hva => ?_
    have e03 := e2.trans e3
    refine sd_asg (K := K) (d := .tuple (hdD h3)) (ed_ixT (i := (i2 : Int)) (ed_ixT (i := (a : Int)) (ed_var (i := 4) rfl hva) (pth (2 * t + 1) a rfl e03 (ed_var (i := 3) rfl (.int _)) ha) (atI_nat (by rw [List.getElem?_map, q1]; rfl))) (pth (2 * t + 2) i2 rfl e03 (ed_is (ed_add (ed_var (i := 3) rfl (.int _)) (ed_int (i := 1))) (congrArg PyData.int (by omega))) hi2) (atI_nat (by rw [progD_heads, List.getElem?_map, q2]; rfl))) fun v5 H3 e4 hv5 => ?_
    exact ⟨h3, v5, _, _, rfl, e03.trans e4, hv5, q3⟩
  · rintro σ' H' ⟨hh, v, v3, v4, rfl, e2, hv, hh2⟩
    rw [← hj, List.drop_length] at hh2
    cases hh2
    exact sd_ret (K := K) (ed_var (i := 2) rfl hv) fun v5 H3 e3 => k v5 H3 (e2.trans e3)
abbrev s_law_beats_fit : Stmt := top 74
theorem sc_law_beats_fit : FnScope ["_law_step_here", "_law_beats", "_law_make_here"] ["_law_step_here", "_law_beats", "_law_make_here"] (defScope s_law_beats_fit) := ⟨rfl, rfl, rfl, by decide +kernel, rfl, by decide +kernel, by decide +kernel⟩
def R_beats_fit (ds : List PyData) (d : PyData) : Prop := ∃ (h : Hd) (b : Int) (m : Mk), ds = [.tuple (hdD h), .int b, makeD m] ∧ LB.fits m h b ∧ m.long ≤ 1 ∧ d = .bool true
theorem c_law_beats_fit (D : Df K mg "_law_beats_fit" s_law_beats_fit ["_law_step_here", "_law_beats", "_law_make_here"]) (T : Txt K mg w dF dB aSt aOt aMm) : Cl Pg w K mg base 1 "_law_beats_fit" (spD K 3 R_beats_fit) := by
  refine D.cl sc_law_beats_fit (fun vs H Q E h => h.1) (fun f cdv A outer s H vs Q E hr h => ?_)
  refine ⟨_, (pss_cons (ps_if (pt_cmpR op_eq (pe_ix ix_tup (pv 0) pe_int (fun _ _ => rfl)) pe_str (nomark _)) (pss_one (ps_ret (pe_cmpR op_eq (pv 1) (pe_ix ix_tup (pv 0) pe_int (fun _ _ => rfl)) (nomark _)))) pss_nil)
    (pss_cons (ps_if (pt_cmpR op_in_seq (pe_ix ix_tup (pv 0) pe_int (fun _ _ => rfl)) (pe_tup (pa_cons pe_str (pa_cons pe_str (pa_cons pe_str pa_nil)))) (by rfl)) (pss_one (ps_ret (pe_cmpR op_in_seq (pv 1) (pe_tup (pa_cons pe_int (pa_cons (pe_op op_add pe_int (pe_ix ix_tup (pv 2) pe_int (fun _ _ => rfl))) pa_nil))) (by rfl)))) pss_nil)
    (pss_cons (ps_if (pt_cmpR op_eq (pe_ix ix_tup (pv 0) pe_int (fun _ _ => rfl)) pe_str (nomark _)) (pss_one (ps_ret (pe_cmpR op_in_seq (pv 1) (pe_tup (pa_cons pe_int (pa_cons (pe_op op_add pe_int (pe_ix ix_tup (pv 2) pe_int (fun _ _ => rfl))) pa_nil))) (by rfl)))) pss_nil)
    (pss_cons (ps_if (pt_cmpR op_in_seq (pe_ix ix_tup (pv 0) pe_int (fun _ _ => rfl)) (pe_tup (pa_cons pe_str (pa_cons pe_str pa_nil))) (by rfl)) (pss_one (ps_ret (pe_chain op_le op_le pe_int (pv 1) (pe_op op_add pe_int (pe_op op_mul pe_int (pe_ix ix_tup (pv 2) pe_int (fun _ _ => rfl))))))) pss_nil)
    (pss_one (ps_ret (pe_cmpR op_eq (pv 1) pe_int (nomark _))))))))
    , ?_⟩
  obtain ⟨_, ds, d, hds, ⟨h, b, m, rfl, hf, hl, rfl⟩, k⟩ := h
  obtain ⟨x, y, z, rfl, h1, h2, h3⟩ := dps3 hds
  obtain rfl := dp_int h2
  have nm : ∀ {H1 : Hp}, Ex H H1 → ED K (tOp (rIxT K) (tVar 0) (tC (.int 0))) [some x, some (.int b), some z] H1 (.str (hdN h)) := fun e => ed_ixT (ed_var (i := 0) rfl (h1.ex e)) ed_int (hdD_at0 h)
  have tq : ∀ (s : Str) {c : Bool} {H1 : Hp}, Ex H H1 → decide (hdN h = s) = c → EvT (tTest (tOp rEq (tOp (rIxT K) (tVar 0) (tC (.int 0))) (tC (.str s)))) [some x, some (.int b), some z] H1 c := fun s c H1 e hc => et_d (K := K) (ed_eqS (nm e) (ed_c (.str s)) hc)
  have t3 : ∀ {c : Bool} {H1 : Hp}, Ex H H1 → tabH h = c → EvT (tTest (tOp (rIn K false) (tOp (rIxT K) (tVar 0) (tC (.int 0))) (tTup (tCons (tC (.str "take")) (tCons (tC (.str "put")) (tCons (tC (.str "touch")) tNil)))))) [some x, some (.int b), some z] H1 c := fun e hc => et_d (ed_inT (nm e) (ed_tup (eda_cons (ed_c (.str "take")) (eda_cons (ed_c (.str "put")) (eda_cons (ed_c (.str "touch")) eda_nil))) (Nat.le_of_ble_eq_true rfl)) (x := .str (hdN h)) (xs := [.str "take", .str "put", .str "touch"]) rfl rfl rfl rfl ((in_tabs h).trans hc))
  have t2 : ∀ {c : Bool} {H1 : Hp}, Ex H H1 → inV (.str (hdN h)) [.str "times", .str "parts"] = c → EvT (tTest (tOp (rIn K false) (tOp (rIxT K) (tVar 0) (tC (.int 0))) (tTup (tCons (tC (.str "times")) (tCons (tC (.str "parts")) tNil))))) [some x, some (.int b), some z] H1 c := fun e hc => et_d (ed_inT (nm e) (ed_tup (eda_cons (ed_c (.str "times")) (eda_cons (ed_c (.str "parts")) eda_nil)) (Nat.le_of_ble_eq_true rfl)) (x := .str (hdN h)) (xs := [.str "times", .str "parts"]) rfl rfl rfl rfl hc)
  have mk : ∀ (j : Nat) (n : Nat) {H1 : Hp}, Ex H H1 → atI [nD m.near, nD m.far, nD m.wrong, nD m.width, nD m.long] (j : Int) = some (nD n) → ED K (tOp (rIxT K) (tVar 2) (tC (.int (j : Int)))) [some x, some (.int b), some z] H1 (nD n) := fun j n H1 e hj => ed_ixT (ed_var (i := 2) rfl (h3.ex e)) ed_int hj
  have two : ∀ (n : Nat) (j : Nat) {H1 : Hp}, Ex H H1 → (b = 1 ∨ b = 1 + (n : Int)) → atI [nD m.near, nD m.far, nD m.wrong, nD m.width, nD m.long] (j : Int) = some (nD n) → ED K (tOp (rIn K false) (tVar 1) (tTup (tCons (tC (.int 1)) (tCons (tOp (rI0 fun i j => .int (i + j)) (tC (.int 1)) (tOp (rIxT K) (tVar 2) (tC (.int (j : Int))))) tNil)))) [some x, some (.int b), some z] H1 (.bool true) := fun n j H1 e hb hj => ed_inT (ed_var (i := 1) rfl (.int b)) (ed_tup (eda_cons ed_int (eda_cons (ed_add ed_int (mk j n e hj)) eda_nil)) (Nat.le_of_ble_eq_true rfl)) (x := .int b) (xs := [.int 1, .int (1 + (n : Int))]) rfl rfl rfl rfl (by
      have := inI b [1, 1 + (n : Int)]
      refine this.trans (decide_eq_true ?_)
      simpa using hb)
  have kk : ∀ {H1 : Hp}, Ex H H1 → ∀ v H2, Ex H1 H2 → Dp K H2 v (.bool true) → Q v H2 := fun e v H2 e2 hv => k v H2 (e.trans e2) hv
  cases h with
  | lf xx =>
    cases xx with
    | idle n =>
      refine q_yes (tq "idle" (Ex.refl H) rfl) rfl fun H1 e1 => ?_
      exact sd_ret (K := K) (d := .bool true) (ed_is (ed_eqI (ed_var (i := 1) rfl (.int b)) (ed_ixT (ed_var (i := 0) rfl (h1.ex e1)) (ed_int (i := 1)) rfl)) (congrArg PyData.bool (decide_eq_true hf))) (kk e1)
    | take b' t c =>
      refine q_not (tq "idle" (Ex.refl H) rfl) rfl fun H1 e1 => ?_
      refine q_yes (t3 e1 rfl) rfl fun H2 e2 => ?_
      exact sd_ret (K := K) (d := .bool true) (two m.far 1 (e1.trans e2) hf rfl) (kk (e1.trans e2))
    | put t c d =>
      refine q_not (tq "idle" (Ex.refl H) rfl) rfl fun H1 e1 => ?_
      refine q_yes (t3 e1 rfl) rfl fun H2 e2 => ?_
      exact sd_ret (K := K) (d := .bool true) (two m.far 1 (e1.trans e2) hf rfl) (kk (e1.trans e2))
    | touch t c =>
      refine q_not (tq "idle" (Ex.refl H) rfl) rfl fun H1 e1 => ?_
      refine q_yes (t3 e1 rfl) rfl fun H2 e2 => ?_
      exact sd_ret (K := K) (d := .bool true) (two m.far 1 (e1.trans e2) hf rfl) (kk (e1.trans e2))
    | tell c =>
      refine q_not (tq "idle" (Ex.refl H) rfl) rfl fun H1 e1 => ?_
      refine q_not (t3 e1 rfl) rfl fun H2 e2 => ?_
      refine q_not (tq "if" (e1.trans e2) rfl) rfl fun H3 e3 => ?_
      refine q_not (t2 ((e1.trans e2).trans e3) rfl) rfl fun H4 e4 => ?_
      exact sd_ret (K := K) (d := .bool true) (ed_is (ed_eqI (ed_var (i := 1) rfl (.int b)) (ed_int (i := 1))) (congrArg PyData.bool (decide_eq_true hf))) (kk (((e1.trans e2).trans e3).trans e4))
    | deed dd =>
      cases dd with
      | set b' n =>
        refine q_not (tq "idle" (Ex.refl H) rfl) rfl fun H1 e1 => ?_
        refine q_not (t3 e1 rfl) rfl fun H2 e2 => ?_
        refine q_not (tq "if" (e1.trans e2) rfl) rfl fun H3 e3 => ?_
        refine q_not (t2 ((e1.trans e2).trans e3) rfl) rfl fun H4 e4 => ?_
        exact sd_ret (K := K) (d := .bool true) (ed_is (ed_eqI (ed_var (i := 1) rfl (.int b)) (ed_int (i := 1))) (congrArg PyData.bool (decide_eq_true hf))) (kk (((e1.trans e2).trans e3).trans e4))
      | copy b' n =>
        refine q_not (tq "idle" (Ex.refl H) rfl) rfl fun H1 e1 => ?_
        refine q_not (t3 e1 rfl) rfl fun H2 e2 => ?_
        refine q_not (tq "if" (e1.trans e2) rfl) rfl fun H3 e3 => ?_
        refine q_not (t2 ((e1.trans e2).trans e3) rfl) rfl fun H4 e4 => ?_
        exact sd_ret (K := K) (d := .bool true) (ed_is (ed_eqI (ed_var (i := 1) rfl (.int b)) (ed_int (i := 1))) (congrArg PyData.bool (decide_eq_true hf))) (kk (((e1.trans e2).trans e3).trans e4))
      | pick b' c d e =>
        refine q_not (tq "idle" (Ex.refl H) rfl) rfl fun H1 e1 => ?_
        refine q_not (t3 e1 rfl) rfl fun H2 e2 => ?_
        refine q_not (tq "if" (e1.trans e2) rfl) rfl fun H3 e3 => ?_
        refine q_not (t2 ((e1.trans e2).trans e3) rfl) rfl fun H4 e4 => ?_
        exact sd_ret (K := K) (d := .bool true) (ed_is (ed_eqI (ed_var (i := 1) rfl (.int b)) (ed_int (i := 1))) (congrArg PyData.bool (decide_eq_true hf))) (kk (((e1.trans e2).trans e3).trans e4))
      | op2 o b' c d =>
        cases o with
        | add =>
          refine q_not (tq "idle" (Ex.refl H) rfl) rfl fun H1 e1 => ?_
          refine q_not (t3 e1 rfl) rfl fun H2 e2 => ?_
          refine q_not (tq "if" (e1.trans e2) rfl) rfl fun H3 e3 => ?_
          refine q_not (t2 ((e1.trans e2).trans e3) rfl) rfl fun H4 e4 => ?_
          exact sd_ret (K := K) (d := .bool true) (ed_is (ed_eqI (ed_var (i := 1) rfl (.int b)) (ed_int (i := 1))) (congrArg PyData.bool (decide_eq_true hf))) (kk (((e1.trans e2).trans e3).trans e4))
        | sub =>
          refine q_not (tq "idle" (Ex.refl H) rfl) rfl fun H1 e1 => ?_
          refine q_not (t3 e1 rfl) rfl fun H2 e2 => ?_
          refine q_not (tq "if" (e1.trans e2) rfl) rfl fun H3 e3 => ?_
          refine q_not (t2 ((e1.trans e2).trans e3) rfl) rfl fun H4 e4 => ?_
          exact sd_ret (K := K) (d := .bool true) (ed_is (ed_eqI (ed_var (i := 1) rfl (.int b)) (ed_int (i := 1))) (congrArg PyData.bool (decide_eq_true hf))) (kk (((e1.trans e2).trans e3).trans e4))
        | less =>
          refine q_not (tq "idle" (Ex.refl H) rfl) rfl fun H1 e1 => ?_
          refine q_not (t3 e1 rfl) rfl fun H2 e2 => ?_
          refine q_not (tq "if" (e1.trans e2) rfl) rfl fun H3 e3 => ?_
          refine q_not (t2 ((e1.trans e2).trans e3) rfl) rfl fun H4 e4 => ?_
          exact sd_ret (K := K) (d := .bool true) (ed_is (ed_eqI (ed_var (i := 1) rfl (.int b)) (ed_int (i := 1))) (congrArg PyData.bool (decide_eq_true hf))) (kk (((e1.trans e2).trans e3).trans e4))
        | same =>
          refine q_not (tq "idle" (Ex.refl H) rfl) rfl fun H1 e1 => ?_
          refine q_not (t3 e1 rfl) rfl fun H2 e2 => ?_
          refine q_not (tq "if" (e1.trans e2) rfl) rfl fun H3 e3 => ?_
          refine q_not (t2 ((e1.trans e2).trans e3) rfl) rfl fun H4 e4 => ?_
          exact sd_ret (K := K) (d := .bool true) (ed_is (ed_eqI (ed_var (i := 1) rfl (.int b)) (ed_int (i := 1))) (congrArg PyData.bool (decide_eq_true hf))) (kk (((e1.trans e2).trans e3).trans e4))
        | mix =>
          refine q_not (tq "idle" (Ex.refl H) rfl) rfl fun H1 e1 => ?_
          refine q_not (t3 e1 rfl) rfl fun H2 e2 => ?_
          refine q_not (tq "if" (e1.trans e2) rfl) rfl fun H3 e3 => ?_
          refine q_not (t2 ((e1.trans e2).trans e3) rfl) rfl fun H4 e4 => ?_
          exact sd_ret (K := K) (d := .bool true) (ed_is (ed_eqI (ed_var (i := 1) rfl (.int b)) (ed_int (i := 1))) (congrArg PyData.bool (decide_eq_true hf))) (kk (((e1.trans e2).trans e3).trans e4))
        | times =>
          refine q_not (tq "idle" (Ex.refl H) rfl) rfl fun H1 e1 => ?_
          refine q_not (t3 e1 rfl) rfl fun H2 e2 => ?_
          refine q_not (tq "if" (e1.trans e2) rfl) rfl fun H3 e3 => ?_
          refine q_yes (t2 ((e1.trans e2).trans e3) rfl) rfl fun H4 e4 => ?_
          exact sd_ret (K := K) (d := .bool true) (ed_is (ed_chLe (ed_int (i := 1)) (ed_var (i := 1) rfl (.int b)) (ed_add (ed_int (i := 1)) (ed_mul (ed_int (i := 15)) (mk 4 m.long (((e1.trans e2).trans e3).trans e4) rfl) (.inl ⟨by decide, by decide⟩)))) (congrArg PyData.bool (by rw [decide_eq_true hf.1, decide_eq_true hf.2]; rfl))) (kk (((e1.trans e2).trans e3).trans e4))
        | parts =>
          refine q_not (tq "idle" (Ex.refl H) rfl) rfl fun H1 e1 => ?_
          refine q_not (t3 e1 rfl) rfl fun H2 e2 => ?_
          refine q_not (tq "if" (e1.trans e2) rfl) rfl fun H3 e3 => ?_
          refine q_yes (t2 ((e1.trans e2).trans e3) rfl) rfl fun H4 e4 => ?_
          exact sd_ret (K := K) (d := .bool true) (ed_is (ed_chLe (ed_int (i := 1)) (ed_var (i := 1) rfl (.int b)) (ed_add (ed_int (i := 1)) (ed_mul (ed_int (i := 15)) (mk 4 m.long (((e1.trans e2).trans e3).trans e4) rfl) (.inl ⟨by decide, by decide⟩)))) (congrArg PyData.bool (by rw [decide_eq_true hf.1, decide_eq_true hf.2]; rfl))) (kk (((e1.trans e2).trans e3).trans e4))
  | ite c p q =>
    refine q_not (tq "idle" (Ex.refl H) rfl) rfl fun H1 e1 => ?_
    refine q_not (t3 e1 rfl) rfl fun H2 e2 => ?_
    refine q_yes (tq "if" (e1.trans e2) rfl) rfl fun H3 e3 => ?_
    exact sd_ret (K := K) (d := .bool true) (two m.wrong 2 ((e1.trans e2).trans e3) hf rfl) (kk ((e1.trans e2).trans e3))
  | rnd c p =>
    refine q_not (tq "idle" (Ex.refl H) rfl) rfl fun H1 e1 => ?_
    refine q_not (t3 e1 rfl) rfl fun H2 e2 => ?_
    refine q_not (tq "if" (e1.trans e2) rfl) rfl fun H3 e3 => ?_
    refine q_not (t2 ((e1.trans e2).trans e3) rfl) rfl fun H4 e4 => ?_
    exact sd_ret (K := K) (d := .bool true) (ed_is (ed_eqI (ed_var (i := 1) rfl (.int b)) (ed_int (i := 1))) (congrArg PyData.bool (decide_eq_true hf))) (kk (((e1.trans e2).trans e3).trans e4))
  | trn c p =>
    refine q_not (tq "idle" (Ex.refl H) rfl) rfl fun H1 e1 => ?_
    refine q_not (t3 e1 rfl) rfl fun H2 e2 => ?_
    refine q_not (tq "if" (e1.trans e2) rfl) rfl fun H3 e3 => ?_
    refine q_not (t2 ((e1.trans e2).trans e3) rfl) rfl fun H4 e4 => ?_
    exact sd_ret (K := K) (d := .bool true) (ed_is (ed_eqI (ed_var (i := 1) rfl (.int b)) (ed_int (i := 1))) (congrArg PyData.bool (decide_eq_true hf))) (kk (((e1.trans e2).trans e3).trans e4))
end
end LW
namespace LW
open PySem PySem.Spec PyProof.Rows L2 Evl
open LB (Deed Lf P Hd S Mk Co Ev StOk)
theorem at_depth : ∀ {r : List Nat} {h h' : Hd} {d : Nat}, h.ok d → LB.atH h r = some h' → r.length ≤ 2 * d
  | [], _, _, _, _, _ => Nat.zero_le _
  | [_], h, _, _, _, e => by cases h <;> cases e
  | a :: i :: r, h, h', d, hk, e => by
    obtain ⟨q, h2, e1, e2, e3⟩ := atH_cons e
    have hq := arms_ok hk q (List.mem_of_getElem? e1)
    obtain ⟨h2k, hd1⟩ := q.ok_heads hq h2 (List.mem_of_getElem? e2)
    have ih := at_depth h2k e3
    simp only [List.length_cons]
    omega
def look (p : P) : List Nat → Option Hd
  | [] => none
  | i :: r => match p.heads[i]? with
    | some h => LB.atH h r
    | none => none
def unN : List PyData → List Nat
  | .int i :: r => i.toNat :: unN r
  | _ :: r => unN r
  | [] => []
theorem unN_map : ∀ l : List Nat, unN (l.map nD) = l
  | [] => rfl
  | i :: l => by
    show ((i : Int)).toNat :: unN (l.map nD) = i :: l
    rw [unN_map l]
    simp
def ifAt (p : P) : PyData → Bool
  | .tuple [.tuple ns, _] => match look p (unN ns) with
    | some h => h.isIf
    | none => false
  | _ => false
def sndD : PyData → PyData
  | .tuple [_, d] => d
  | d => d
theorem ways_eq (p : P) : ∀ (b : Int) (l : List Ev), (∀ e ∈ l, look p e.path = some e.hd) → (((LB.metOf b l).map metD).filter (ifAt p)).map sndD = (LB.waysOf b l).map PyData.int
  | _, [], _ => rfl
  | b, e :: l, h => by
    have ih := ways_eq p (b + e.dur) l fun y hy => h y (List.mem_cons_of_mem _ hy)
    have he := h e List.mem_cons_self
    have h1 : ifAt p (metD (e.path, b)) = e.hd.isIf := by
      show (match look p (unN (e.path.map nD)) with | some h => h.isIf | none => false) = _
      rw [unN_map, he]
    show ((metD (e.path, b) :: (LB.metOf (b + e.dur) l).map metD).filter (ifAt p)).map sndD = ((if e.hd.isIf = true then [b] else []) ++ LB.waysOf (b + e.dur) l).map PyData.int
    rw [List.filter_cons, h1]
    cases e.hd.isIf with
    | true =>
      rw [if_pos rfl, if_pos rfl, List.map_cons, ih]
      rfl
    | false =>
      rw [if_neg (by decide), if_neg (by decide)]
      exact ih
theorem ifAt_eq (p : P) (e : Ev) (b : Int) (h : look p e.path = some e.hd) : ifAt p (metD (e.path, b)) = e.hd.isIf := by
  show (match look p (unN (e.path.map nD)) with | some h => h.isIf | none => false) = _
  rw [unN_map, h]
def badRoom : PyData → Bool
  | .tuple [_, _, .int r] => !(decide (0 ≤ r) && decide (r ≤ 3))
  | _ => false
def prD (x : Int × Int) : PyData := .tuple [.int x.1, .int x.2]
theorem prD_inj (a b : Int × Int) (h : prD a = prD b) : a = b := roomD_inj a b h
theorem tab_own {m : Mk} {e : Ev} (h : LB.EvOk m e) : (tabH e.hd = true → ∃ t : Nat, e.hd.isTab = some t ∧ ∀ b, LB.ownE b e = [(b, (t : Int))]) ∧ (tabH e.hd = false → ∀ b, LB.ownE b e = []) := by
  have ho := h.own
  have key : tabH e.hd = e.hd.isTab.isSome := by
    cases e.hd with
    | lf x => cases x <;> rfl
    | _ => rfl
  constructor
  · intro ht
    rw [key] at ht
    obtain ⟨t, ht⟩ := Option.isSome_iff_exists.mp ht
    refine ⟨t, ht, fun b => ?_⟩
    rw [ht] at ho
    unfold LB.ownE
    cases q : e.own with
    | none => rw [q] at ho; cases ho
    | some x =>
      rw [q] at ho
      have : x.1 = (t : Int) := Option.some.inj ho
      rw [← this]
  · intro ht b
    rw [key] at ht
    have : e.hd.isTab = none := by
      cases q : e.hd.isTab with
      | none => rfl
      | some t => rw [q] at ht; cases ht
    rw [this] at ho
    unfold LB.ownE
    cases q : e.own with
    | none => rfl
    | some x => rw [q] at ho; cases ho
/-- the table's place in a step -/
theorem tab_place {h : Hd} {t : Nat} (ht : h.isTab = some t) : (hdN h = ("take" : Str) → atI (hdD h) 2 = some (nD t)) ∧ (hdN h ≠ ("take" : Str) → atI (hdD h) 1 = some (nD t)) := by
  cases h with
  | lf x =>
    cases x with
    | take b t' c => cases ht; exact ⟨fun _ => rfl, fun e => (e rfl).elim⟩
    | put t' c d => cases ht; exact ⟨fun e => absurd e (show ¬ (("put" : Str) = "take") by decide +kernel), fun _ => rfl⟩
    | touch t' c => cases ht; exact ⟨fun e => absurd e (show ¬ (("touch" : Str) = "take") by decide +kernel), fun _ => rfl⟩
    | deed _ => cases ht
    | tell _ => cases ht
    | idle _ => cases ht
  | ite _ _ _ => cases ht
  | rnd _ _ => cases ht
  | trn _ _ => cases ht
section
variable {K : PySem.W.Frag} {σ : L2.St} {H : Hp} {D : Ends} {tu tz : TS} {g : TG} {te ta tb : TE} {l : Addr} {xs : List V} {ds : List PyData}
theorem q_forEnL (hl : H l = some (.lst xs)) (hxs : DpAll K H xs ds) (z : tdats ds = true) (h : Ev te σ H (.ref l)) (W : ∀ H1, Ex H H1 → ∃ Pv : Nat → L2.St → Hp → Prop, Pv 0 σ H1 ∧ (∀ i σ' H', Pv i σ' H' → H' l = some (.lst xs) ∧ Tx H H') ∧
    (∀ i d x σ' H' H4, (numD 0 ds)[i]? = some d → Pv i σ' H' → Ex H' H4 → Dp K H4 x d → g x σ' H4 fun σ2 H2 => tu { D with nx := Pv (i + 1), ct := Pv (i + 1), bk := tz D } σ2 H2) ∧ (∀ σ' H', Pv ds.length σ' H' → tz D σ' H')) : tSeq (tFor (iEnum K (tCons te tNil)) g tu) tz D σ H :=
  h H (Ex.refl H) _ fun H1 e => by
    obtain ⟨Pv, p0, ptx, ps, pd⟩ := W H1 e
    exact ⟨l, xs, rfl, sq_of (e _ _ hl), for_J (D := { D with nx := tz D }) (jd_enumL (Kp := fun H3 => SqL K H3 l xs ∧ DpAll K H3 xs ds) fun _ k => k) Pv p0 (fun i σ' H' p => ⟨sq_of (ptx i σ' H' p).1, hxs.tx (ptx i σ' H' p).2 z⟩) ps (by rw [numD_len]; exact pd)⟩
theorem tk_nest {i j k : Nat} {a b c : PyData} {v : V} (h : Dp K H v (.tuple [a, .tuple [b, c]])) (σ : L2.St) : ∃ x y z, Dp K H x a ∧ Dp K H y b ∧ Dp K H z c ∧ Tk (gTup K 2 (gCons (gName i) (gCons (gTup K 2 (gCons (gName j) (gCons (gName k) gNil))) gNil))) v σ H (((σ.set i (some x)).set j (some y)).set k (some z)) := by
  obtain ⟨p, xs, rfl, h1, h2⟩ := dp_tup h
  obtain ⟨x, y, rfl, hx, hy⟩ := dps2 h2
  obtain ⟨p2, xs2, rfl, h3, h4⟩ := dp_tup hy
  obtain ⟨u, z, rfl, hu, hz⟩ := dps2 h4
  exact ⟨x, u, z, hx, hu, hz, fun Q q => ⟨p, _, rfl, h1, rfl, x, _, rfl, .ref p2, _, rfl, ⟨p2, _, rfl, h3, rfl, u, _, rfl, z, _, rfl, rfl, rfl, q⟩⟩⟩
theorem ed_niLI {b : Int} {ns : List Int} (ha : ED K ta σ H (.int b)) (hb : ED K tb σ H (.list (ns.map PyData.int))) : ED K (tOp (rIn K true) ta tb) σ H (.bool (!decide (b ∈ ns))) := ed_op ha hb fun H1 _ y z hy hz Q q => by
  obtain rfl := dp_int hy
  obtain ⟨a, ys, rfl, hs, hys⟩ := dp_lst hz
  obtain rfl := dps_ints hys
  refine ⟨a, _, rfl, .inl hs, rfl, List.all_eq_true.mpr fun v hv => by obtain ⟨n, _, rfl⟩ := List.mem_map.mp hv; rfl, ?_⟩
  show Q (.bl (!inV (.int b) (ns.map V.int))) H1
  rw [inI]
  exact q _ H1 (Ex.refl H1) (.bl _)
end
section
variable {Pg : Program} {w : World} {K : PySem.W.Frag} {mg : Str → Option Value} {base : Heap} {dF dB aSt aOt aMm C TL : Addr}
abbrev s_law_events_right : Stmt := top 75
theorem sc_law_events_right : FnScope ["_law_program_here", "_law_make_here", "_law_world_here", "_law_told", "_law_behind", "_law_seen", "_law_rows", "_law_rooms", "_law_k", "_law_path", "_law_beat", "_law_later", "_law_step_here", "_law_ways", "_law_left", "_law_table", "_law_room", "_law_touch"] ["_law_program_here", "_law_make_here", "_law_world_here"] (defScope s_law_events_right) := ⟨rfl, rfl, rfl, by decide +kernel, rfl, by decide +kernel, by decide +kernel⟩
def R_events_right (ds : List PyData) (d : PyData) : Prop := ∃ (p : P) (m : Mk) (v : W2), ds = [.tuple (progD p), makeD m, wD v] ∧ RunOk p m v ∧ many m p v < 300 ∧ d = .bool true
theorem c_law_events_right (D : Df K mg "_law_events_right" s_law_events_right ["_law_program_here", "_law_make_here", "_law_world_here"]) (T : Txt K mg w dF dB aSt aOt aMm) (c_run : Cl Pg w K mg base 32 "run" (spD K 3 R_run)) (c_events : Cl Pg w K mg base 32 "events" (spDL K 3 R_events))
    (c_law_at : Cl Pg w K mg base 1 "_law_at" (spD K 2 R_at)) (c_law_beats_fit : Cl Pg w K mg base 1 "_law_beats_fit" (spD K 3 R_beats_fit)) : Cl Pg w K mg base 33 "_law_events_right" (spD K 3 R_events_right) := by
  refine D.cl sc_law_events_right (fun vs H Q E h => h.1) (fun f cdv A outer s H vs Q E hr h => ?_)
  refine ⟨_, (pss_cons (ps_asg (pe_u c_run hr (by omega) rfl (pa_cons (pv 0) (pa_cons (pv 1) (pa_cons (pv 2) pa_nil)))) (pg_tup rfl (pgs_cons (pg_name (i := 3) sc_law_events_right.nd rfl (Or.inl rfl)) (pgs_cons (pg_name (i := 4) sc_law_events_right.nd rfl (Or.inl rfl)) (pgs_cons (pg_name (i := 5) sc_law_events_right.nd rfl (Or.inl rfl)) pgs_nil)))))
    (pss_cons (ps_set (i := 6) sc_law_events_right.nd rfl (Or.inl rfl) (pe_u c_events hr (by omega) rfl (pa_cons (pv 0) (pa_cons (pv 1) (pa_cons (pv 2) pa_nil)))))
    (pss_cons (ps_set (i := 7) sc_law_events_right.nd rfl (Or.inl rfl) (pe_lst pa_nil))
    (pss_cons (ps_for PassesOwn.never rfl (pi_enum rfl T.n_enumerate (pa_cons (pv 6) pa_nil)) (pg_tup rfl (pgs_cons (pg_name (i := 8) sc_law_events_right.nd rfl (Or.inl rfl)) (pgs_cons (pg_tup rfl (pgs_cons (pg_name (i := 9) sc_law_events_right.nd rfl (Or.inl rfl)) (pgs_cons (pg_name (i := 10) sc_law_events_right.nd rfl (Or.inl rfl)) pgs_nil))) pgs_nil)))
    (pss_cons (ps_set (i := 11) sc_law_events_right.nd rfl (Or.inl rfl) (pe_ifExp (pt_cmpR op_lt (pe_op op_add (pv 8) pe_int) (pe_callB call_len_seq (by rfl) T.n_len (by decide +kernel) (pa_cons (pv 6) pa_nil)) (nomark _)) (pe_ix ix_tup (pe_ix ix_list (pv 6) (pe_op op_add (pv 8) pe_int) (fun _ _ => rfl)) pe_int (fun _ _ => rfl)) (pe_ix ix_tup (pv 5) pe_int (fun _ _ => rfl))))
    (pss_cons (ps_set (i := 12) sc_law_events_right.nd rfl (Or.inl rfl) (pe_u c_law_at hr (by omega) rfl (pa_cons (pv 0) (pa_cons (pv 9) pa_nil))))
    (pss_cons (ps_if (pt_not (pt_val (pe_u c_law_beats_fit hr (by omega) rfl (pa_cons (pv 12) (pa_cons (pe_op op_sub (pv 11) (pv 10)) (pa_cons (pv 1) pa_nil)))))) (pss_one (ps_ret pe_bl)) pss_nil)
    (pss_one (ps_if (pt_cmpR op_in_seq (pe_ix ix_tup (pv 12) pe_int (fun _ _ => rfl)) (pe_tup (pa_cons pe_str (pa_cons pe_str (pa_cons pe_str pa_nil)))) (by rfl)) (pss_one (ps_expr (pe_bm PySem.F.plainAttrs_list PySem.F.slot_list_append PySem.F.type_list_append mt_append (pv 7) (pa_cons (pe_tup (pa_cons (pv 10) (pa_cons (pe_ifExp (pt_cmpR op_eq (pe_ix ix_tup (pv 12) pe_int (fun _ _ => rfl)) pe_str (nomark _)) (pe_ix ix_tup (pv 12) pe_int (fun _ _ => rfl)) (pe_ix ix_tup (pv 12) pe_int (fun _ _ => rfl))) pa_nil))) pa_nil)))) pss_nil))))))
    (pss_cons (ps_if (pt_cmpR (op_eqD hr.units) (pv 6) (pe_lst pa_nil) (nomark _)) (pss_one (ps_ret (pe_cmpR (op_eqD hr.units) (pv 5) (pe_tup (pa_cons pe_int (pa_cons (pe_tup pa_nil) pa_nil))) (nomark _)))) pss_nil)
    (pss_cons (ps_setLc (i := 13) (own := [("_law_path", 9), ("_law_beat", 10)]) (g := (gTup K 2 (gCons (gName 9) (gCons (gName 10) gNil)))) (by rfl) sc_law_events_right.nd rfl rfl (sw_true rfl rfl rfl (by decide +kernel)) (pi_list (pv 6)) (blkOk_by (own := [("_law_path", 9), ("_law_beat", 10)]) (N := ["_law_program_here", "_law_make_here", "_law_world_here", "_law_told", "_law_behind", "_law_seen", "_law_rows", "_law_rooms", "_law_k", "_law_path", "_law_beat", "_law_later", "_law_step_here", "_law_ways", "_law_left", "_law_table", "_law_room", "_law_touch"]) (sc := defScope s_law_events_right) (by decide +kernel)) (fun _ _ _ _ _ => (pg_tup rfl (pgs_cons (pg_name (i := 9) sc_law_events_right.nd rfl (Or.inl rfl)) (pgs_cons (pg_name (i := 10) sc_law_events_right.nd rfl (Or.inl rfl)) pgs_nil)))) (fun _ _ _ _ _ => (pts_one (pt_cmpR op_eq (pe_ix (ix_tupK K) (pe_u c_law_at hr (by omega) rfl (pa_cons (pv 0) (pa_cons (pv 9) pa_nil))) pe_int (fun _ _ => rfl)) pe_str (nomark _)))) (fun _ _ _ _ _ => (pv 10)))
    (pss_cons (ps_set (i := 14) sc_law_events_right.nd rfl (Or.inl rfl) (pe_callTy call_list_of (by rfl) T.n_list (by decide +kernel) (pa_cons (pv 7) pa_nil)))
    (pss_cons (ps_for PassesOwn.never rfl (pi_tup (pe_ix ix_tup (pv 5) pe_int (fun _ _ => rfl))) (pg_tup rfl (pgs_cons (pg_name (i := 10) sc_law_events_right.nd rfl (Or.inl rfl)) (pgs_cons (pg_name (i := 15) sc_law_events_right.nd rfl (Or.inl rfl)) (pgs_cons (pg_name (i := 16) sc_law_events_right.nd rfl (Or.inl rfl)) pgs_nil))))
    (pss_one (ps_if (PW.pt (pw_and (pt_cmpR (op_neD hr.units) (pv 14) (pe_lst pa_nil) (nomark _)) (pw_and1 (pt_cmpR (op_eqD hr.units) (pe_ix ix_list (pv 14) pe_int (fun _ _ => rfl)) (pe_tup (pa_cons (pv 10) (pa_cons (pv 15) pa_nil))) (nomark _))))) (pss_one (ps_set (i := 14) sc_law_events_right.nd rfl (Or.inl rfl) (pe_slice sl_list (pv 14) (po_some pe_int) po_none))) (pss_one (ps_if (PW.pt (pw_or (pt_cmpR op_notIn_seq (pv 10) (pv 13) (by rfl)) (pw_or1 (pt_cmpR op_eq (pe_ix ix_tup (pv 1) pe_int (fun _ _ => rfl)) pe_int (nomark _))))) (pss_one (ps_ret pe_bl)) pss_nil)))))
    (pss_one (ps_ret (pe_and (pe_cmpR (op_eqD hr.units) (pv 14) (pe_lst pa_nil) (nomark _)) (pe_and (pe_cmpR op_eq (pe_ix ix_tup (pe_ix ix_list (pv 6) pe_int (fun _ _ => rfl)) pe_int (fun _ _ => rfl)) pe_int (nomark _)) (pe_one (pe_cmpR (op_eqD hr.units) (pe_lc (own := [("_law_touch", 17)]) (g := (gName 17)) (by rfl) sc_law_events_right.nd (pi_tup (pe_ix ix_tup (pv 5) pe_int (fun _ _ => rfl))) (blkOk_by (own := [("_law_touch", 17)]) (N := ["_law_program_here", "_law_make_here", "_law_world_here", "_law_told", "_law_behind", "_law_seen", "_law_rows", "_law_rooms", "_law_k", "_law_path", "_law_beat", "_law_later", "_law_step_here", "_law_ways", "_law_left", "_law_table", "_law_room", "_law_touch"]) (sc := defScope s_law_events_right) (by decide +kernel)) (fun _ _ _ _ _ => (pg_name (i := 17) sc_law_events_right.nd rfl (Or.inl rfl))) (fun _ _ _ _ _ => (pts_one (pt_not (pt_chain op_le op_le pe_int (pe_ix (ix_tupK K) (pv 17) pe_int (fun _ _ => rfl)) pe_int)))) (fun _ _ _ _ _ => (pv 17))) (pe_lst pa_nil) (nomark _)))))))))))))))
    , ?_⟩
  obtain ⟨_, ds, d, hds, ⟨p, m, v, rfl, R, hmany, rfl⟩, kQ⟩ := h
  obtain ⟨x, y, z, rfl, h1, h2, h3⟩ := dps3 hds
  -- the events
  obtain ⟨evs, hevs⟩ : ∃ evs, evs = (LB.runQ xr bt m p v).2 := ⟨_, rfl⟩
  have hE : ∀ e ∈ evs, LB.EvOk m e ∧ LB.StandsIn p [] 0 e := by
    rw [hevs]
    exact LB.sem_ok ops m R.mkk.long p R.ok [] 0 (LB.start0 v) R.good
  have hmet : (runX m p v).met = LB.metOf 0 evs := by rw [hevs]; rfl
  have htch : (runX m p v).touches = LB.touchesOf 0 evs := by rw [hevs]; rfl
  have hbts : (runX m p v).beats = LB.dursOf evs := by rw [hevs]; exact LB.runS_beats m p v
  have hlen : evs.length < 300 := by rw [hevs]; exact hmany
  have hat : ∀ e ∈ evs, R_at [.tuple (progD p), pathD e.path] (.tuple (hdD e.hd)) ∧ look p e.path = some e.hd := fun e he => by
    obtain ⟨_, i, r, h0, e1, e2, e3⟩ := hE e he
    have ep : e.path = i :: r := by rw [e1, Nat.zero_add]; rfl
    have hk0 := p.ok_heads R.ok h0 (List.mem_of_getElem? e2)
    have hr := at_depth hk0.1 e3
    refine ⟨⟨p, i, r, h0, e.hd, by rw [ep], e2, e3, by omega, rfl⟩, ?_⟩
    rw [ep]
    show (match p.heads[i]? with | some h => LB.atH h r | none => none) = some e.hd
    rw [e2]
    exact e3
  -- run, events
  refine qd_asgG (K := K) (ed_call (K := K) (d := resD (runX m p v)) (eda_cons (ed_var (i := 0) rfl h1) (eda_cons (ed_var (i := 1) rfl h2) (eda_cons (ed_var (i := 2) rfl h3) eda_nil))) ⟨p, m, v, rfl, R, by omega, rfl⟩) fun u H1 e1 hu => ?_
  obtain ⟨u3, u4, u5, q3, q4, q5, htk⟩ := tk_three (i := 3) (j := 4) (l := 5) hu [some x, some y, some z, none, none, none, none, none, none, none, none, none, none, none, none, none, none, none]
  refine ⟨_, htk, ?_⟩
  have hseen : Dp K H1 u5 (seenD (runX m p v)) := q5
  refine qd_asgL (K := K) (edl_call (eda_cons (ed_var (i := 0) rfl (h1.ex e1)) (eda_cons (ed_var (i := 1) rfl (h2.ex e1)) (eda_cons (ed_var (i := 2) rfl (h3.ex e1)) eda_nil))) ⟨p, m, v, rfl, R, by omega, rfl⟩) fun lr xr' H2 hlr e2 hxr hxrD => ?_
  rw [hmet] at hxrD
  have e02 := e1.trans e2
  have rowsD : ∀ {σ : L2.St} {H3 : Hp}, σ[6]? = some (some (.ref lr)) → Ex H2 H3 → ED K (tVar 6) σ H3 (.list ((LB.metOf 0 evs).map metD)) := fun hσ e => ed_var hσ (.lst (sq_of (e _ _ hxr)) (hxrD.ex e))
  have seenV : ∀ {σ : L2.St} {H3 : Hp}, σ[5]? = some (some u5) → Ex H2 H3 → ED K (tVar 5) σ H3 (seenD (runX m p v)) := fun hσ e => ed_var hσ (hseen.ex (e2.trans e))
  refine qd_asgL (K := K) (edl_lst eda_nil (Nat.zero_le _)) fun lm xm H3 hlm e3 hxm hxmD => ?_
  obtain rfl : xm = [] := by cases hxmD; rfl
  have hlen2 : (LB.metOf 0 evs).length = evs.length := LB.metOf_len 0 evs
  have nlm : lr ≠ lm := fun h => by rw [← h, hxr] at hlm; cases hlm
  refine q_forEnL (K := K) (H := H3) (l := lr) (e3 _ _ hxr) (hxrD.ex e3) (tdats_map tdat_met _) (ev_var (i := 6) rfl) fun H4 e4 => ?_
  refine ⟨fun i σ' H' => ∃ (v8 v9 v10 v11 v12 : Option V) (xs7 : List V), σ' = [some x, some y, some z, some u3, some u4, some u5, some (.ref lr), some (.ref lm), v8, v9, v10, v11, v12, none, none, none, none, none] ∧ Ex H2 H' ∧ H' lm = some (.lst xs7) ∧ DpAll K H' xs7 ((LB.ownsOf 0 (evs.take i)).map prD) ∧ xs7.length ≤ i ∧ Tx H3 H', ?_, ?_, ?_, ?_⟩
  · exact ⟨none, none, none, none, none, [], rfl, e3.trans e4, e4 _ _ hxm, .nil, Nat.le_refl _, Tx.of e4⟩
  · rintro i σ' H' ⟨v8, v9, v10, v11, v12, xs7, rfl, ex, _, _, _, tx⟩
    exact ⟨ex _ _ hxr, tx⟩
  · rintro i d xi σ' H' H5 hi ⟨v8, v9, v10, v11, v12, xs7, rfl, ex, hl7, hx7, hn7, tx7⟩ e5 hd
    obtain ⟨dd, hdd, rfl⟩ := numD_at hi
    rw [Nat.zero_add] at hd
    have hil : i < evs.length := by
      have := (List.getElem?_eq_some_iff.mp hdd).1
      rw [List.length_map, hlen2] at this
      exact this
    obtain ⟨e, he⟩ : ∃ e, evs[i]? = some e := ⟨_, List.getElem?_eq_getElem hil⟩
    have hem := List.mem_of_getElem? he
    have hmi := LB.met_at 0 evs i e he
    rw [Int.zero_add] at hmi
    rw [List.getElem?_map, hmi] at hdd
    cases hdd
    obtain ⟨bt0, hbt0⟩ : ∃ bt0, bt0 = LB.dursOf (evs.take i) := ⟨_, rfl⟩
    rw [← hbt0] at hmi hd
    obtain ⟨w8, w9, w10, r8, r9, r10, htk2⟩ := tk_nest (i := 8) (j := 9) (k := 10) hd [some x, some y, some z, some u3, some u4, some u5, some (.ref lr), some (.ref lm), v8, v9, v10, v11, v12, none, none, none, none, none]
    obtain rfl := dp_int r8
    obtain rfl := dp_int r10
    refine htk2 _ ?_
    have ex5 := ex.trans e5
    have hnext : (runX m p v).beats = bt0 + e.dur ∨ ∃ e', evs[i + 1]? = some e' ∧ (LB.metOf 0 evs)[i + 1]? = some (e'.path, bt0 + e.dur) := by
      have hds := LB.durs_snoc evs i e he
      by_cases h : i + 1 < evs.length
      · right
        refine ⟨_, List.getElem?_eq_getElem h, ?_⟩
        rw [LB.met_at 0 evs (i + 1) _ (List.getElem?_eq_getElem h), Int.zero_add, hds, hbt0]
      · left
        rw [hbts, hbt0, ← hds, List.take_of_length_le (by omega)]
    have hlater : ED K (tIf (tTest (tOp (rI0 fun i j => .bl (decide (i < j))) (tOp (rI0 fun i j => .int (i + j)) (tVar 8) (tC (.int 1))) (tCB (rLenS K) (tCons (tVar 6) tNil)))) (tOp (rIxT K) (tOp (rIxL K) (tVar 6) (tOp (rI0 fun i j => .int (i + j)) (tVar 8) (tC (.int 1)))) (tC (.int 1))) (tOp (rIxT K) (tVar 5) (tC (.int 0))))
        [some x, some y, some z, some u3, some u4, some u5, some (.ref lr), some (.ref lm), some (.int (i : Int)), some w9, some (.int bt0), v11, v12, none, none, none, none, none] H5 (.int (bt0 + e.dur)) := by
      refine ed_if (et_d (K := K) (ed_lt (ed_add (ed_var (i := 8) rfl (.int _)) (ed_int (i := 1))) (ed_lenL (rowsD rfl ex5)))) (fun hb => ?_) fun hb => ?_
      · rw [List.length_map, hlen2] at hb
        have hb := of_decide_eq_true hb
        rcases hnext with h | ⟨e', h1, h2⟩
        · have hds := LB.durs_snoc evs i e he
          have h1 : evs[i + 1]? = some (evs[i + 1]'(by omega)) := List.getElem?_eq_getElem (by omega)
          have h2 := LB.met_at 0 evs (i + 1) _ h1
          rw [Int.zero_add, hds, ← hbt0] at h2
          exact ed_ixT (i := 1) (ed_ixL (i := ((i + 1 : Nat) : Int)) (rowsD rfl ex5) (ed_is (ed_add (ed_var (i := 8) rfl (.int _)) (ed_int (i := 1))) (congrArg PyData.int (by omega))) (atI_nat (by rw [List.getElem?_map, h2]; rfl))) ed_int rfl
        · exact ed_ixT (i := 1) (ed_ixL (i := ((i + 1 : Nat) : Int)) (rowsD rfl ex5) (ed_is (ed_add (ed_var (i := 8) rfl (.int _)) (ed_int (i := 1))) (congrArg PyData.int (by omega))) (atI_nat (by rw [List.getElem?_map, h2]; rfl))) ed_int rfl
      · rw [List.length_map, hlen2] at hb
        have hb := of_decide_eq_false hb
        rcases hnext with h | ⟨e', h1, h2⟩
        · rw [← h]
          exact ed_ixT (seenV rfl ex5) (ed_int (i := 0)) rfl
        · have := (List.getElem?_eq_some_iff.mp h1).1
          omega
    refine qd_asg hlater fun v11' H6 e6 hv11 => ?_
    obtain rfl := dp_int hv11
    have ex6 := ex5.trans e6
    refine qd_asg (K := K) (d := .tuple (hdD e.hd)) (ed_call (K := K) (eda_cons (ed_var (i := 0) rfl (h1.ex (e02.trans ex6))) (eda_cons (ed_var (i := 9) rfl (r9.ex e6)) eda_nil)) (hat e hem).1) fun v12' H7 e7 hv12 => ?_
    have ex7 := ex6.trans e7
    have hsub : R_beats_fit [.tuple (hdD e.hd), .int (bt0 + e.dur - bt0), makeD m] (.bool true) := ⟨e.hd, _, m, rfl, by rw [show bt0 + e.dur - bt0 = e.dur by omega]; exact (hE e hem).1.fit, R.mkk.long, rfl⟩
    refine q_not (b := false) (et_not (a := true) (et_dB (K := K) (ed_call (K := K) (eda_cons (ed_var (i := 12) rfl hv12) (eda_cons (ed_sub (ed_var (i := 11) rfl (.int _)) (ed_var (i := 10) rfl (.int _))) (eda_cons (ed_var (i := 1) rfl (h2.ex (e02.trans ex7))) eda_nil))) hsub))) rfl fun H8 e8 => ?_
    have ex8 := ex7.trans e8
    have e58 := (e6.trans e7).trans e8
    have hl8 := (e5.trans e58) _ _ hl7
    have hx8 := hx7.ex (e5.trans e58)
    have tx8 := tx7.trans (Tx.of (e5.trans e58))
    have nm8 : ∀ {H9 : Hp}, Ex H8 H9 → ED K (tOp (rIxT K) (tVar 12) (tC (.int 0))) [some x, some y, some z, some u3, some u4, some u5, some (.ref lr), some (.ref lm), some (.int (i : Int)), some w9, some (.int bt0), some (.int (bt0 + e.dur)), some v12', none, none, none, none, none] H9 (.str (hdN e.hd)) := fun e9 => ed_ixT (ed_var (i := 12) rfl ((hv12.ex e8).ex e9)) ed_int (hdD_at0 e.hd)
    have tab8 : EvT (tTest (tOp (rIn K false) (tOp (rIxT K) (tVar 12) (tC (.int 0))) (tTup (tCons (tC (.str "take")) (tCons (tC (.str "put")) (tCons (tC (.str "touch")) tNil)))))) [some x, some y, some z, some u3, some u4, some u5, some (.ref lr), some (.ref lm), some (.int (i : Int)), some w9, some (.int bt0), some (.int (bt0 + e.dur)), some v12', none, none, none, none, none] H8 (tabH e.hd) := et_d (ed_inT (nm8 (Ex.refl H8)) (ed_tup (eda_cons (ed_c (.str "take")) (eda_cons (ed_c (.str "put")) (eda_cons (ed_c (.str "touch")) eda_nil))) (Nat.le_of_ble_eq_true rfl)) (x := .str (hdN e.hd)) (xs := [.str "take", .str "put", .str "touch"]) rfl rfl rfl rfl (in_tabs e.hd))
    have hown := LB.owns_snoc 0 evs i e he
    rw [Int.zero_add, ← hbt0] at hown
    refine s_when tab8 (fun ht H9 e9 => ?_) fun ht H9 e9 => ?_
    · obtain ⟨t, htab, hob⟩ := (tab_own (hE e hem).1).1 ht
      obtain ⟨pA, pB⟩ := tab_place htab
      refine sd_append (K := K) (l := lm) (xs := xs7) (d := prD (bt0, (t : Int))) (e9 _ _ hl8) (ev_var rfl) (ed_tup (eda_cons (ed_var (i := 10) rfl (.int _)) (eda_cons (ed_if (b := decide (hdN e.hd = ("take" : Str))) (et_d (K := K) (ed_eqS (nm8 e9) (ed_c (.str "take")) rfl)) (fun hb => ed_ixT (ed_var (i := 12) rfl (hv12.ex (e8.trans e9))) (ed_int (i := 2)) (pA (of_decide_eq_true hb))) (fun hb => ed_ixT (ed_var (i := 12) rfl (hv12.ex (e8.trans e9))) (ed_int (i := 1)) (pB (of_decide_eq_false hb)))) eda_nil)) (Nat.le_of_ble_eq_true rfl)) (by omega) fun yy H10 e10 hyy => ?_
      have hl10 := (e9.trans e10) _ _ hl8
      refine ⟨_, _, _, _, _, xs7 ++ [yy], rfl, Ex.mut (ex8.trans (e9.trans e10)) hlm, upd_same, ?_, by rw [List.length_append]; show _ + 1 ≤ _; omega, tx_mut (tx8.trans (Tx.of (e9.trans e10))) hl10⟩
      rw [hown, hob, List.map_append]
      refine dps_mut (dps_app (hx8.ex (e9.trans e10)) (dps_one hyy)) (tdats_all fun d' hd' => ?_) hl10
      rcases List.mem_append.mp hd' with hd' | hd'
      · obtain ⟨q, _, rfl⟩ := List.mem_map.mp hd'; rfl
      · rw [List.mem_singleton.mp hd']; rfl
    · refine ⟨_, _, _, _, _, xs7, rfl, ex8.trans e9, e9 _ _ hl8, ?_, by omega, tx8.trans (Tx.of e9)⟩
      rw [hown, (tab_own (hE e hem).1).2 ht, List.append_nil]
      exact hx8.ex e9
  · rintro σ' H' ⟨v8, v9, v10, v11, v12, xs7, rfl, ex, hl7, hx7, hn7, tx7⟩
    rw [List.length_map, hlen2, List.take_length] at hx7
    -- no event
    have shr : SeqAt.shaped (.list ((LB.metOf 0 evs).map metD)) = true := (sh_lst (n := 2) (all_map fun q _ => sh_tup (n := 1) (all_cons (sh_path q.1) (all_cons sh_int all_nil)))).shaped
    have shn : SeqAt.shaped (.list []) = true := (sh_lst (n := 0) all_nil).shaped
    refine q_when (b := ((LB.metOf 0 evs).map metD).isEmpty) (et_is (et_d (ed_eqD (rowsD (σ := [some x, some y, some z, some u3, some u4, some u5, some (.ref lr), some (.ref lm), v8, v9, v10, v11, v12, none, none, none, none, none]) rfl ex) (ed_ofL (edl_lst eda_nil (Nat.zero_le _))) shr shn)) (eqv_nil _)) (fun hb H3 e3 => ?_) fun hb H3 e3 => ?_
    · have hev : evs = [] := by
        cases hq : evs with
        | nil => rfl
        | cons e l => rw [hq] at hb; cases hb
      refine sd_ret (K := K) (d := .bool true) (ed_is (ed_eqD (seenV rfl (ex.trans e3)) (ed_tup (eda_cons (ed_int (i := 0)) (eda_cons (ed_tup eda_nil (Nat.zero_le _)) eda_nil)) (Nat.le_of_ble_eq_true rfl)) (sh_seen _).shaped (sh_seen (⟨[], [], [], 0, [], [], fun _ => true, []⟩ : S)).shaped) ?_) fun w H4 e4 => kQ w H4 (((e02.trans ex).trans e3).trans e4)
      have h1 := eqv_seen (runX m p v) (⟨[], [], [], 0, [], [], fun _ => true, []⟩ : S)
      refine congrArg PyData.bool (h1.trans ?_)
      unfold likeS
      rw [hbts, htch, hev]
      rfl
    have hne : evs ≠ [] := fun h => by rw [h] at hb; cases hb
    have ex3 := ex.trans e3
    have hl73 := e3 _ _ hl7
    have hx73 := hx7.ex e3
    -- the ways
    have hlc := edl_lc (K := K) (H := H3) (g := gTup K 2 (gCons (gName 9) (gCons (gName 10) gNil))) (tt := tTest (tOp rEq (tOp (rIxT K) (tCall (spD K 2 R_at) [] E (tCons (tVar 0) (tCons (tVar 9) tNil))) (tC (.int 0))) (tC (.str "if")))) (vs := [9, 10]) (te := tVar 10) (ifAt p) sndD (it_lst (rowsD (σ := [some x, some y, some z, some u3, some u4, some u5, some (.ref lr), some (.ref lm), v8, v9, v10, v11, v12, none, none, none, none, none]) rfl ex3)) (by rw [List.length_map, hlen2]; omega) (fun d hd _ => by
      obtain ⟨q, _, rfl⟩ := List.mem_map.mp hd
      rfl) (fun i d v' H4 e4 hi hd => by
      rw [List.getElem?_map] at hi
      have hil : i < evs.length := by
        rw [← hlen2]
        cases hq : (LB.metOf 0 evs)[i]? with
        | none => rw [hq] at hi; cases hi
        | some q => exact (List.getElem?_eq_some_iff.mp hq).1
      have he : evs[i]? = some evs[i] := List.getElem?_eq_getElem hil
      rw [LB.met_at 0 evs i _ he] at hi
      cases hi
      have hem := List.mem_of_getElem? he
      obtain ⟨w9, w10, r9, r10, htk⟩ := tk_two (i := 9) (j := 10) hd (wipe [some x, some y, some z, some u3, some u4, some u5, some (.ref lr), some (.ref lm), v8, v9, v10, v11, v12, none, none, none, none, none] [9, 10])
      refine ⟨_, htk, rfl, et_is (et_d (ed_eqS (ed_ixT (ed_call (K := K) (eda_cons (ed_var (i := 0) rfl (h1.ex ((e02.trans ex3).trans e4))) (eda_cons (ed_var (i := 9) rfl r9) eda_nil)) (hat _ hem).1) ed_int (hdD_at0 _)) (ed_c (.str "if")) (in_if _))) (ifAt_eq p _ _ (hat _ hem).2).symm, fun _ => ed_var (i := 10) rfl r10⟩)
    rw [ways_eq p 0 evs fun e he => (hat e he).2] at hlc
    refine qd_asgL (K := K) hlc fun lw xw H4 hlw e4 hxw hxwD => ?_
    have hl74 := e4 _ _ hl73
    have hx74 := hx73.ex e4
    refine qd_asgL (K := K) (edl_copyL (ed_var (i := 7) rfl (.lst (sq_of hl74) hx74))) fun ll xl H5 hll e5 hxl hxlD => ?_
    have ex5 := (ex3.trans e4).trans e5
    refine q_sq ?_
    refine s_forTD (K := K) (ds := (runX m p v).touches.map tchD) (ed_ixT (seenV rfl ex5) (ed_int (i := 1)) rfl) (tdats_map tdat_tch _) fun H6 e6 => ?_
    have ex6 := ex5.trans e6
    have wayD : ∀ {σ : L2.St} {H7 : Hp}, σ[13]? = some (some (.ref lw)) → Ex H6 H7 → ED K (tVar 13) σ H7 (.list ((LB.waysOf 0 evs).map PyData.int)) := fun hσ e => ed_var hσ (.lst (sq_of ((((e5.trans e6).trans e) _ _ hxw))) (hxwD.ex ((e5.trans e6).trans e)))
    refine ⟨fun i σ' H' => ∃ (v10 : Option V) (v14 : V) (v15 v16 : Option V) (L : List (Int × Int)), σ' = [some x, some y, some z, some u3, some u4, some u5, some (.ref lr), some (.ref lm), v8, v9, v10, v11, v12, some (.ref lw), some v14, v15, v16, none] ∧ Ex H6 H' ∧ Dp K H' v14 (.list (L.map prD)) ∧ LB.chk (LB.waysOf 0 evs) (decide (m.width = 0)) ((LB.touchesOf 0 evs).drop i) L = some [], ?_, ?_, ?_, ?_⟩
    · exact ⟨v10, .ref ll, none, none, LB.ownsOf 0 evs, rfl, Ex.refl _, .lst (sq_of (e6 _ _ hxl)) (hxlD.ex e6), LB.chk_all _ 0 evs (fun e he => (hE e he).1) fun _ h => h⟩
    · rintro i σ' H' ⟨_, _, _, _, _, rfl, e7, _, _⟩
      exact Tx.of e7
    · rintro i d xi σ' H' hi hd ⟨v10, v14, v15, v16, L, rfl, e7, hL, hck⟩
      rw [List.getElem?_map, htch] at hi
      obtain ⟨t, ht, rfl⟩ : ∃ t, (LB.touchesOf 0 evs)[i]? = some t ∧ d = tchD t := by
        cases hq : (LB.touchesOf 0 evs)[i]? with
        | none => rw [hq] at hi; cases hi
        | some t => rw [hq] at hi; exact ⟨t, rfl, (Option.some.inj hi).symm⟩
      have hdrop : (LB.touchesOf 0 evs).drop i = t :: (LB.touchesOf 0 evs).drop (i + 1) := by
        obtain ⟨hlt, he⟩ := List.getElem?_eq_some_iff.mp ht
        rw [List.drop_eq_getElem_cons hlt, he]
      rw [hdrop] at hck
      obtain ⟨w10, w15, w16, r10, r15, r16, htk⟩ := tk_three (i := 10) (j := 15) (l := 16) hd [some x, some y, some z, some u3, some u4, some u5, some (.ref lr), some (.ref lm), v8, v9, v10, v11, v12, some (.ref lw), some v14, v15, v16, none]
      obtain rfl := dp_int r10
      refine htk _ ?_
      have shL : SeqAt.shaped (.list (L.map prD)) = true := (sh_lst (n := 1) (all_map fun q _ => sh_room q)).shaped
      unfold LB.chk at hck
      refine s_if (b := decide (L.head? = some (t.1, t.2.1))) (et_is (et_and (et_is (et_d (ed_neD (ed_var (i := 14) rfl hL) (ed_ofL (edl_lst eda_nil (Nat.zero_le _))) shL shn)) (by rw [eqv_nil])) fun hn => et_d (ed_eqD (dx := match L.head? with | some q => prD q | none => .none) (ed_ixL (ed_var (i := 14) rfl hL) (ed_int (i := 0)) ?_) (ed_tup (eda_cons (ed_var (i := 10) rfl (.int _)) (eda_cons (ed_var (i := 15) rfl r15) eda_nil)) (Nat.le_of_ble_eq_true rfl)) ?_ (sh_room (t.1, t.2.1)).shaped)) ?_) (fun hb H8 e8 => ?_) fun hb H8 e8 => ?_
      · cases L with
        | nil => cases hn
        | cons q L => exact atI_nat (j := 0) rfl
      · cases L with
        | nil => cases hn
        | cons q L => exact (sh_room q).shaped
      · cases L with
        | nil => exact (decide_eq_false (fun h => by cases h)).symm
        | cons q L =>
          show (true && PyData.eqv (roomD q) (roomD (t.1, t.2.1))) = _
          rw [eqv_enc roomD_inj plain_room, Bool.true_and]
          refine decide_eq_decide.mpr ⟨fun h => by rw [h]; rfl, fun h => Option.some.inj h⟩
      · rw [if_pos (of_decide_eq_true hb)] at hck
        refine sd_asgL (K := K) (edl_slL (ed_var (i := 14) rfl (hL.ex e8)) (eo_c (i := 1)) eo_none) fun l2 x2 H9 hl2 e9 hx2 hx2D => ?_
        rw [show (1 : Int) = ((1 : Nat) : Int) from rfl, cutFrom, ← List.map_drop] at hx2D
        exact ⟨_, _, _, _, L.tail, rfl, (e7.trans e8).trans e9, .lst (sq_of hx2) (by rw [← List.drop_one]; exact hx2D), hck⟩
      · rw [if_neg (of_decide_eq_false hb)] at hck
        have hw : t.1 ∈ LB.waysOf 0 evs ∧ decide (m.width = 0) = false := by
          by_cases h : t.1 ∈ LB.waysOf 0 evs ∧ decide (m.width = 0) = false
          · exact h
          · rw [if_neg h] at hck; cases hck
        rw [if_pos hw] at hck
        refine s_not (b := false) (et_or (a := false) (et_is (et_d (ed_niLI (ed_var (i := 10) rfl (.int _)) (wayD rfl (e7.trans e8)))) (by rw [decide_eq_true hw.1]; rfl)) fun _ => et_is (et_d (ed_eqI (i := (m.width : Int)) (j := 0) (ed_ixT (ed_var (i := 1) rfl (h2.ex (e02.trans (ex6.trans (e7.trans e8))))) (ed_int (i := 3)) rfl) (ed_int (i := 0)))) ?_) rfl fun H9 e9 => ?_
        · rw [← hw.2]
          exact decide_eq_decide.mpr ⟨fun h => by omega, fun h => by omega⟩
        · exact ⟨_, _, _, _, L, rfl, (e7.trans e8).trans e9, hL.ex (e8.trans e9), hck⟩
    · rintro σ' H' ⟨v10, v14, v15, v16, L, rfl, e7, hL, hck⟩
      rw [List.length_map, htch, List.drop_length] at hck
      obtain rfl : L = [] := Option.some.inj hck
      have ex7 := ex6.trans e7
      obtain ⟨e0, evr, hev⟩ : ∃ e0 evr, evs = e0 :: evr := by
        cases hq : evs with
        | nil => exact (hne hq).elim
        | cons e l => exact ⟨e, l, rfl⟩
      have hm0 : atI ((LB.metOf 0 evs).map metD) 0 = some (metD (e0.path, 0)) := by rw [hev]; exact atI_nat (j := 0) rfl
      refine sd_ret (K := K) (d := .bool true) (ed_is (ed_and (a := true) (b := true) (ed_is (ed_eqD (ed_var (i := 14) rfl hL) (ed_ofL (edl_lst eda_nil (Nat.zero_le _))) shn shn) (by show PyData.bool (PyData.eqv (.list []) (.list [])) = _; rw [eqv_nil]; rfl)) fun _ => ed_and (a := true) (b := true) (ed_is (ed_eqI (i := 0) (j := 0) (ed_ixT (ed_ixL (rowsD rfl ex7) (ed_int (i := 0)) hm0) (ed_int (i := 1)) rfl) ed_int) rfl) fun _ => ?_) rfl) fun w H8 e8 => kQ w H8 ((e02.trans ex7).trans e8)
      have hlc2 := edl_lc (K := K) (H := H') (g := gName 17) (tt := tNot (tTest (tChain (rI0 fun i j => .bl (decide (i ≤ j))) (rI0 fun i j => .bl (decide (i ≤ j))) (tC (.int 0)) (tOp (rIxT K) (tVar 17) (tC (.int 2))) (tC (.int 3))))) (vs := [17]) (te := tVar 17) badRoom id (it_tup (ds := (runX m p v).touches.map tchD) (ed_ixT (seenV (σ := [some x, some y, some z, some u3, some u4, some u5, some (.ref lr), some (.ref lm), v8, v9, v10, v11, v12, some (.ref lw), some v14, v15, v16, none]) rfl ex7) (ed_int (i := 1)) rfl)) (by
        rw [List.length_map, htch]
        have := LB.touches_few R.mkk evs 0 fun e he => (hE e he).1
        omega) (fun d hd _ => by
        obtain ⟨q, _, rfl⟩ := List.mem_map.mp hd
        rfl) (fun i d v' H4 e4 hi hd => by
        obtain ⟨t, _, rfl⟩ := List.mem_map.mp (List.mem_of_getElem? hi)
        exact ⟨_, tk_one _, rfl, et_not (et_d (ed_chLe ed_int (ed_ixT (ed_var (i := 17) rfl hd) (ed_int (i := 2)) rfl) ed_int)), fun _ => ed_var (i := 17) rfl hd⟩)
      rw [show (((runX m p v).touches.map tchD).filter badRoom).map id = [] by
        rw [List.map_id, htch]
        exact List.filter_eq_nil_iff.mpr fun d hd => by
          obtain ⟨t, ht, rfl⟩ := List.mem_map.mp hd
          have := LB.rooms_all 0 evs (fun e he => (hE e he).1) t ht
          show ¬ (!(decide (0 ≤ t.2.2) && decide (t.2.2 ≤ 3))) = true
          rw [decide_eq_true this.1, decide_eq_true this.2]
          decide] at hlc2
      exact ed_is (ed_eqD (ed_ofL hlc2) (ed_ofL (edl_lst eda_nil (Nat.zero_le _))) shn shn) (by rw [eqv_nil]; rfl)
end
end LW
namespace LW
open PySem PySem.Spec PyProof.Rows L2 Evl
open LB (Deed Lf P Hd S Mk Co Ev StOk)
def addF (g : Int → Int) : PyData → PyData
  | .tuple [.int b, t, r] => .tuple [.int (g b), t, r]
  | d => d
theorem addF_map (g : Int → Int) (l : List T3) : (l.map tchD).map (addF g) = (l.map fun t => (g t.1, t.2.1, t.2.2)).map tchD := by
  rw [List.map_map, List.map_map]
  rfl
theorem plain_world (bx : List Int) (tabs : List (List Int)) : plainD (worldD bx tabs) = true := plain_tup (all_cons (plain_tup (all_map fun _ _ => plain_int _)) (all_cons (plain_tup (all_map fun t _ => plain_tup (all_map fun _ _ => plain_int _))) all_nil))
theorem sh_world (bx : List Int) (tabs : List (List Int)) : Sh 3 (worldD bx tabs) := sh_tup (n := 2) (all_cons (sh_tup (n := 1) (sh_ints _)) (all_cons (sh_tup (n := 1) (all_map fun t _ => sh_tup (n := 0) (sh_ints _))) all_nil))
theorem plain_res (s : S) : plainD (resD s) = true := plain_tup (all_cons (plain_tup (all_map fun _ _ => plain_int _)) (all_cons (plain_world _ _) (all_cons (plain_seen (s.beats, s.touches)) all_nil)))
theorem sh_res (s : S) : Sh 4 (resD s) := sh_tup (n := 3) (all_cons (sh_tup (n := 2) (sh_ints _)) (all_cons (sh_world _ _) (all_cons (sh_seen s) all_nil)))
theorem eqv_self {d : PyData} (h : plainD d = true) : PyData.eqv d d = true := (eqv_iff d d h h).mpr rfl
theorem res_round (m : Mk) (p : P) (v : W2) : resD (runX m (.rnd 1 p .nil) v) = .tuple [.tuple ((runX m p v).said.map PyData.int), worldD (runX m p v).boxes (runX m p v).tabs, .tuple [.int ((runX m p v).beats + 1), .tuple (((runX m p v).touches.map tchD).map (addF (· + 1)))]] := by
  obtain ⟨e1, e2, e3, e4, e5, _⟩ := LB.run_round (xor := xr) (bits := bt) m p v
  rw [addF_map]
  show resD (LB.runS xr bt m (.rnd 1 p .nil) v) = _
  unfold resD seenD
  rw [e1, e2, e3, e4, e5]
theorem many_round (m : Mk) (p : P) (v : W2) : many m (.rnd 1 p .nil) v = many m p v + 1 := by
  have e := (LB.run_round (xor := xr) (bits := bt) m p v).2.2.2.2.2
  rw [LB.runS_len, LB.runS_len] at e
  exact e
theorem many_make (m m' : Mk) (p : P) (v : W2) : many m p v = many m' p v := by
  have e := (LB.run_makes (xor := xr) (bits := bt) m m' p v).2.2.2
  rw [LB.runS_len, LB.runS_len] at e
  exact e
theorem res_app {m : Mk} (h0 : m.near = 0) (p q : P) (v : W2) : ∀ bv : W2, bv = ((runX m p v).boxes, (runX m p v).tabs) → resD (runX m (p.app q) v) = .tuple [.tuple ((runX m p v).said.map PyData.int ++ (runX m q bv).said.map PyData.int), worldD (runX m q bv).boxes (runX m q bv).tabs, .tuple [.int ((runX m p v).beats + (runX m q bv).beats), .tuple ((runX m p v).touches.map tchD ++ ((runX m q bv).touches.map tchD).map (addF ((runX m p v).beats + ·)))]] := by
  rintro _ rfl
  obtain ⟨e1, e2, e3, e4, e5, _⟩ := LB.run_app (xor := xr) (bits := bt) h0 p q v
  rw [addF_map, ← List.map_append, ← List.map_append]
  show resD (LB.runS xr bt m (p.app q) v) = _
  unfold resD seenD
  rw [e1, e2, e3, e4, e5]
theorem tch_le {p : P} {m : Mk} {v : W2} (R : RunOk p m v) : (runX m p v).touches.length ≤ 4 * many m p v := LB.touches_few R.mkk _ 0 fun e he => (LB.sem_ok ops m R.mkk.long p R.ok [] 0 (LB.start0 v) R.good e he).1
theorem said_le {p : P} {m : Mk} {v : W2} (R : RunOk p m v) : (runX m p v).said.length ≤ many m p v := LB.told_few _
theorem behind_ok {p : P} {m : Mk} {v : W2} (R : RunOk p m v) : LB.Good (runX m p v).boxes (runX m p v).tabs := LB.sem_good ops m p R.ok [] 0 (LB.start0 v) R.good
section
variable {Pg : Program} {w : World} {K : PySem.W.Frag} {mg : Str → Option Value} {base : Heap} {dF dB aSt aOt aMm C TL : Addr}
theorem edl_add {σ : L2.St} {H : Hp} {ta te : TE} {g : Int → Int} {l : List T3} (hl : l.length < 100000) (h : ED K ta σ H (.tuple (l.map tchD)))
    (hw : ∀ a b c, wipe (((( wipe σ [8, 9, 10]).set 8 (some a)).set 9 (some b)).set 10 (some c)) [8, 9, 10] = wipe σ [8, 9, 10])
    (h9 : ∀ a b c, ((((wipe σ [8, 9, 10]).set 8 (some a)).set 9 (some b)).set 10 (some c))[9]? = some (some b) ∧ ((((wipe σ [8, 9, 10]).set 8 (some a)).set 9 (some b)).set 10 (some c))[10]? = some (some c))
    (hg : ∀ (i : Int) b c H1, Ex H H1 → ED K te ((((wipe σ [8, 9, 10]).set 8 (some (.int i))).set 9 (some b)).set 10 (some c)) H1 (.int (g i))) :
    ED K (tThen (tLc (iTup K ta) (gTup K 3 (gCons (gName 8) (gCons (gName 9) (gCons (gName 10) gNil)))) tYes (tTup (tCons te (tCons (tVar 9) (tCons (tVar 10) tNil)))) [8, 9, 10]) (kTup K)) σ H (.tuple ((l.map tchD).map (addF g))) := by
  have hlc := edl_lc (K := K) (H := H) (σ := σ) (g := gTup K 3 (gCons (gName 8) (gCons (gName 9) (gCons (gName 10) gNil)))) (tt := tYes) (vs := [8, 9, 10]) (te := tTup (tCons te (tCons (tVar 9) (tCons (tVar 10) tNil)))) (fun _ => true) (addF g) (it_tup h) (by rw [List.length_map]; exact hl) (fun d hd _ => by
    obtain ⟨t, _, rfl⟩ := List.mem_map.mp hd
    rfl) (fun i d v H3 e3 hi hd => by
    have hm := List.mem_of_getElem? hi
    obtain ⟨t, _, rfl⟩ := List.mem_map.mp hm
    obtain ⟨w8, w9, w10, r8, r9, r10, htk⟩ := tk_three (i := 8) (j := 9) (l := 10) hd (wipe σ [8, 9, 10])
    obtain rfl := dp_int r8
    exact ⟨_, htk, hw _ _ _, et_yes, fun _ => ed_tup (ds := [.int (g t.1), .int t.2.1, .int t.2.2]) (eda_cons (hg t.1 _ _ _ e3) (eda_cons (ed_var (h9 _ _ _).1 r9) (eda_cons (ed_var (h9 _ _ _).2 r10) eda_nil))) (Nat.le_of_ble_eq_true rfl)⟩)
  rw [List.filter_eq_self.mpr (fun _ _ => rfl)] at hlc
  exact ed_tupOf hlc
abbrev s_law_put_right : Stmt := top 76
theorem sc_law_put_right : FnScope ["_law_program_here", "_law_other", "_law_make_here", "_law_world_here", "_law_told", "_law_behind", "_law_seen", "_law_later", "_law_beat", "_law_table", "_law_room", "_law_first", "_law_second", "_law_beats", "_law_touches"] ["_law_program_here", "_law_other", "_law_make_here", "_law_world_here"] (defScope s_law_put_right) := ⟨rfl, rfl, rfl, by decide +kernel, rfl, by decide +kernel, by decide +kernel⟩
def R_put_right (ds : List PyData) (d : PyData) : Prop := ∃ (p q : P) (m : Mk) (v : W2), ds = [.tuple (progD p), .tuple (progD q), makeD m, wD v] ∧ RunOk p m v ∧ p.ok 7 ∧ q.ok 7 ∧ p.size ≤ 40 ∧ q.size ≤ 40 ∧ many m p v < 300 ∧ d = .bool true
theorem c_law_put_right (D : Df K mg "_law_put_right" s_law_put_right ["_law_program_here", "_law_other", "_law_make_here", "_law_world_here"]) (T : Txt K mg w dF dB aSt aOt aMm) (c_run : Cl Pg w K mg base 32 "run" (spD K 3 R_run)) (c_law_fits : Cl Pg w K mg base 33 "_law_fits" (spD K 3 R_fits)) :
    Cl Pg w K mg base 34 "_law_put_right" (spD K 4 R_put_right) := by
  refine D.cl sc_law_put_right (fun vs H Q E h => h.1) (fun f cdv A outer s H vs Q E hr h => ?_)
  refine ⟨_, (pss_cons (ps_asg (pe_u c_run hr (by omega) rfl (pa_cons (pv 0) (pa_cons (pv 2) (pa_cons (pv 3) pa_nil)))) (pg_tup rfl (pgs_cons (pg_name (i := 4) sc_law_put_right.nd rfl (Or.inl rfl)) (pgs_cons (pg_name (i := 5) sc_law_put_right.nd rfl (Or.inl rfl)) (pgs_cons (pg_name (i := 6) sc_law_put_right.nd rfl (Or.inl rfl)) pgs_nil)))))
    (pss_cons (ps_set (i := 7) sc_law_put_right.nd rfl (Or.inl rfl) (pe_tupleOf rfl T.n_tuple (pe_lc (own := [("_law_beat", 8), ("_law_table", 9), ("_law_room", 10)]) (g := (gTup K 3 (gCons (gName 8) (gCons (gName 9) (gCons (gName 10) gNil))))) (tt := tYes) (by rfl) sc_law_put_right.nd (pi_tup (pe_ix ix_tup (pv 6) pe_int (fun _ _ => rfl))) (blkOk_by (own := [("_law_beat", 8), ("_law_table", 9), ("_law_room", 10)]) (N := ["_law_program_here", "_law_other", "_law_make_here", "_law_world_here", "_law_told", "_law_behind", "_law_seen", "_law_later", "_law_beat", "_law_table", "_law_room", "_law_first", "_law_second", "_law_beats", "_law_touches"]) (sc := defScope s_law_put_right) (by decide +kernel)) (fun _ _ _ _ _ => (pg_tup rfl (pgs_cons (pg_name (i := 8) sc_law_put_right.nd rfl (Or.inl rfl)) (pgs_cons (pg_name (i := 9) sc_law_put_right.nd rfl (Or.inl rfl)) (pgs_cons (pg_name (i := 10) sc_law_put_right.nd rfl (Or.inl rfl)) pgs_nil))))) (fun _ _ _ _ _ => pts_nil) (fun _ _ _ _ _ => (pe_tup (pa_cons (pe_op op_add (pv 8) pe_int) (pa_cons (pv 9) (pa_cons (pv 10) pa_nil))))))))
    (pss_cons (ps_if (pt_cmpR (op_neD hr.units) (pe_u c_run hr (by omega) rfl (pa_cons (pe_tup (pa_cons (pe_tup (pa_cons pe_str (pa_cons pe_int (pa_cons (pv 0) pa_nil)))) pa_nil)) (pa_cons (pv 2) (pa_cons (pv 3) pa_nil)))) (pe_tup (pa_cons (pv 4) (pa_cons (pv 5) (pa_cons (pe_tup (pa_cons (pe_op op_add (pe_ix ix_tup (pv 6) pe_int (fun _ _ => rfl)) pe_int) (pa_cons (pv 7) pa_nil))) pa_nil)))) (nomark _)) (pss_one (ps_ret pe_bl)) pss_nil)
    (pss_cons (ps_set (i := 2) sc_law_put_right.nd rfl (Or.inl rfl) (pe_op op_catA (pe_tup (pa_cons pe_int pa_nil)) (pe_slice sl_tupA (pv 2) (po_some pe_int) po_none)))
    (pss_cons (ps_if (PW.pt (pw_or (pt_not (pt_val (pe_u c_law_fits hr (by omega) rfl (pa_cons (pv 1) (pa_cons (pv 2) (pa_cons (pv 5) pa_nil)))))) (pw_or1 (pt_not (pt_val (pe_u c_law_fits hr (by omega) rfl (pa_cons (pe_op op_catA (pv 0) (pv 1)) (pa_cons (pv 2) (pa_cons (pv 3) pa_nil))))))))) (pss_one (ps_ret pe_bl)) pss_nil)
    (pss_cons (ps_par (i := 11) (j := 12) (by rfl) sc_law_put_right.nd rfl rfl (by decide) rfl rfl (pa_cons (pe_u c_run hr (by omega) rfl (pa_cons (pv 0) (pa_cons (pv 2) (pa_cons (pv 3) pa_nil)))) (pa_cons (pe_u c_run hr (by omega) rfl (pa_cons (pv 1) (pa_cons (pv 2) (pa_cons (pv 5) pa_nil)))) pa_nil)) (by rfl))
    (pss_cons (ps_set (i := 13) sc_law_put_right.nd rfl (Or.inr rfl) (pe_ix ix_tup (pe_ix ix_tup (pv 11) pe_int (fun _ _ => rfl)) pe_int (fun _ _ => rfl)))
    (pss_cons (ps_set (i := 14) sc_law_put_right.nd rfl (Or.inl rfl) (pe_op op_catA (pe_ix ix_tup (pe_ix ix_tup (pv 11) pe_int (fun _ _ => rfl)) pe_int (fun _ _ => rfl)) (pe_tupleOf rfl T.n_tuple (pe_lc (own := [("_law_beat", 8), ("_law_table", 9), ("_law_room", 10)]) (g := (gTup K 3 (gCons (gName 8) (gCons (gName 9) (gCons (gName 10) gNil))))) (tt := tYes) (by rfl) sc_law_put_right.nd (pi_tup (pe_ix ix_tup (pe_ix ix_tup (pv 12) pe_int (fun _ _ => rfl)) pe_int (fun _ _ => rfl))) (blkOk_by (own := [("_law_beat", 8), ("_law_table", 9), ("_law_room", 10)]) (N := ["_law_program_here", "_law_other", "_law_make_here", "_law_world_here", "_law_told", "_law_behind", "_law_seen", "_law_later", "_law_beat", "_law_table", "_law_room", "_law_first", "_law_second", "_law_beats", "_law_touches"]) (sc := defScope s_law_put_right) (by decide +kernel)) (fun _ _ _ _ _ => (pg_tup rfl (pgs_cons (pg_name (i := 8) sc_law_put_right.nd rfl (Or.inl rfl)) (pgs_cons (pg_name (i := 9) sc_law_put_right.nd rfl (Or.inl rfl)) (pgs_cons (pg_name (i := 10) sc_law_put_right.nd rfl (Or.inl rfl)) pgs_nil))))) (fun _ _ _ _ _ => pts_nil) (fun _ _ _ _ _ => (pe_tup (pa_cons (pe_op op_add (pv 13) (pv 8)) (pa_cons (pv 9) (pa_cons (pv 10) pa_nil)))))))))
    (pss_one (ps_ret (pe_cmpR (op_eqD hr.units) (pe_u c_run hr (by omega) rfl (pa_cons (pe_op op_catA (pv 0) (pv 1)) (pa_cons (pv 2) (pa_cons (pv 3) pa_nil)))) (pe_tup (pa_cons (pe_op op_catA (pe_ix ix_tup (pv 11) pe_int (fun _ _ => rfl)) (pe_ix ix_tup (pv 12) pe_int (fun _ _ => rfl))) (pa_cons (pe_ix ix_tup (pv 12) pe_int (fun _ _ => rfl)) (pa_cons (pe_tup (pa_cons (pe_op op_add (pv 13) (pe_ix ix_tup (pe_ix ix_tup (pv 12) pe_int (fun _ _ => rfl)) pe_int (fun _ _ => rfl))) (pa_cons (pv 14) pa_nil))) pa_nil)))) (nomark _))))))))))))
    , ?_⟩
  obtain ⟨_, ds, d, hds, ⟨p, q, m, v, rfl, R, hp7, hq7, hps, hqs, hmany, rfl⟩, kQ⟩ := h
  obtain ⟨x, y, z, t, rfl, h1, h2, h3, h4⟩ := dps4 hds
  have Rr : RunOk (.rnd 1 p .nil) m v := ⟨⟨by decide, by decide, by decide, hp7, trivial⟩, by show 1 + p.size + 0 ≤ 400; omega, R.mkk, R.good⟩
  refine qd_asgG (K := K) (ed_call (K := K) (d := resD (runX m p v)) (eda_cons (ed_var (i := 0) rfl h1) (eda_cons (ed_var (i := 2) rfl h3) (eda_cons (ed_var (i := 3) rfl h4) eda_nil))) ⟨p, m, v, rfl, R, by omega, rfl⟩) fun u H1 e1 hu => ?_
  obtain ⟨u4, u5, u6, q4, q5, q6, htk⟩ := tk_three (i := 4) (j := 5) (l := 6) hu [some x, some y, some z, some t, none, none, none, none, none, none, none, none, none, none, none]
  refine ⟨_, htk, ?_⟩
  have q6 : Dp K H1 u6 (seenD (runX m p v)) := q6
  have q5 : Dp K H1 u5 (wD ((runX m p v).boxes, (runX m p v).tabs)) := q5
  have htl := tch_le R
  refine qd_asg (K := K) (edl_add (K := K) (g := (· + 1)) (σ := [some x, some y, some z, some t, some u4, some u5, some u6, none, none, none, none, none, none, none, none]) (l := (runX m p v).touches) (by omega) (ed_ixT (ed_var (i := 6) rfl q6) (ed_int (i := 1)) rfl) (fun _ _ _ => rfl) (fun _ _ _ => ⟨rfl, rfl⟩) fun i b c H2 e2 => ed_add (ed_var (i := 8) rfl (.int i)) (ed_int (i := 1))) fun v7 H2 e2 hv7 => ?_
  have e02 := e1.trans e2
  have hrr := res_round m p v
  refine q_not (b := false) (et_is (et_d (ed_neD (dx := resD (runX m (.rnd 1 p .nil) v)) (dy := resD (runX m (.rnd 1 p .nil) v)) (ed_call (K := K) (eda_cons (ed_tup (eda_cons (ed_tup (eda_cons (ed_str (x := "round")) (eda_cons (ed_int (i := 1)) (eda_cons (ed_var (i := 0) rfl (h1.ex e02)) eda_nil))) (Nat.le_of_ble_eq_true rfl)) eda_nil) (Nat.le_of_ble_eq_true rfl)) (eda_cons (ed_var (i := 2) rfl (h3.ex e02)) (eda_cons (ed_var (i := 3) rfl (h4.ex e02)) eda_nil))) ⟨.rnd 1 p .nil, m, v, rfl, Rr, by rw [many_round]; omega, rfl⟩)
    (ed_is (ed_tup (eda_cons (ed_var (i := 4) rfl (q4.ex e2)) (eda_cons (ed_var (i := 5) rfl (q5.ex e2)) (eda_cons (ed_tup (eda_cons (ed_add (ed_ixT (ed_var (i := 6) rfl (q6.ex e2)) (ed_int (i := 0)) rfl) (ed_int (i := 1))) (eda_cons (ed_var (i := 7) rfl hv7) eda_nil)) (Nat.le_of_ble_eq_true rfl)) eda_nil))) (Nat.le_of_ble_eq_true rfl)) hrr.symm) (sh_res _).shaped (sh_res _).shaped)) (by rw [eqv_self (plain_res _)]; rfl)) rfl fun H3 e3 => ?_
  have e03 := e02.trans e3
  have e13 := e2.trans e3
  -- no rooms near
  obtain ⟨m0, hm0⟩ : ∃ m0 : Mk, m0 = ⟨0, m.far, m.wrong, m.width, m.long⟩ := ⟨_, rfl⟩
  have hn0 : m0.near = 0 := by rw [hm0]
  have M0 : LB.MkOk m0 := by rw [hm0]; exact ⟨Nat.zero_le _, R.mkk.far, R.mkk.wrong, R.mkk.width, R.mkk.long⟩
  refine qd_asg (K := K) (d := makeD m0) (ed_is (ed_catT (ed_tup (eda_cons (ed_int (i := 0)) eda_nil) (Nat.le_of_ble_eq_true rfl)) (ed_slT (ed_var (i := 2) rfl (h3.ex e03)) (eo_c (i := 1)) eo_none) (by rw [show (1 : Int) = ((1 : Nat) : Int) from rfl, cutFrom]; exact Nat.le_of_ble_eq_true rfl)) (by rw [show (1 : Int) = ((1 : Nat) : Int) from rfl, cutFrom, hm0]; rfl)) fun z2 H4 e4 hz2 => ?_
  have e04 := e03.trans e4
  have e14 := e13.trans e4
  obtain ⟨bv, hbv⟩ : ∃ bv : W2, bv = ((runX m p v).boxes, (runX m p v).tabs) := ⟨_, rfl⟩
  rw [← hbv] at q5
  have hbv0 : bv = ((runX m0 p v).boxes, (runX m0 p v).tabs) := by
    obtain ⟨_, a, b, _⟩ := LB.run_makes (xor := xr) (bits := bt) m m0 p v
    rw [hbv]
    show ((LB.runS xr bt m p v).boxes, (LB.runS xr bt m p v).tabs) = _
    rw [a, b]
  have R0 : RunOk p m0 v := ⟨R.ok, R.size, M0, R.good⟩
  have Rq : RunOk q m0 bv := ⟨q.ok_mono (by decide) hq7, by omega, M0, by rw [hbv]; exact behind_ok R⟩
  have Ra : RunOk (p.app q) m0 v := ⟨P.ok_app p q R.ok (q.ok_mono (by decide) hq7), by rw [size_app]; omega, M0, R.good⟩
  have hm0y : many m0 p v < 300 := by rw [many_make m0 m]; exact hmany
  have pq : ∀ {σ : L2.St} {H5 : Hp}, σ[0]? = some (some x) → σ[1]? = some (some y) → Ex H H5 → ED K (tOp (rCatA K) (tVar 0) (tVar 1)) σ H5 (.tuple (progD (p.app q))) := fun a b e => by
    rw [progD_app]
    refine ed_catT (ed_var a (h1.ex e)) (ed_var b (h2.ex e)) ?_
    rw [progD_len, progD_len]
    have a1 := len_size p
    have a2 := len_size q
    omega
  refine q_when (b := !decide (many m0 q bv < 300) || !decide (many m0 (p.app q) v < 300)) (et_or (et_not (et_dB (ed_call (K := K) (eda_cons (ed_var (i := 1) rfl (h2.ex e04)) (eda_cons (ed_var (i := 2) rfl hz2) (eda_cons (ed_var (i := 5) rfl (q5.ex e14)) eda_nil))) ⟨q, m0, bv, rfl, Rq, rfl⟩))) fun _ => et_not (et_dB (ed_call (K := K) (eda_cons (pq rfl rfl e04) (eda_cons (ed_var (i := 2) rfl hz2) (eda_cons (ed_var (i := 3) rfl (h4.ex e04)) eda_nil))) ⟨p.app q, m0, v, rfl, Ra, rfl⟩))) (fun _ H5 e5 => sd_ret (d := .bool true) ed_bl fun w H6 e6 => kQ w H6 ((e04.trans e5).trans e6)) fun hb H5 e5 => ?_
  have hqm : many m0 q bv < 300 := by
    by_cases h : many m0 q bv < 300
    · exact h
    · rw [decide_eq_false h] at hb; cases hb
  have ham : many m0 (p.app q) v < 300 := by
    by_cases h : many m0 (p.app q) v < 300
    · exact h
    · rw [decide_eq_false h, Bool.not_false, Bool.or_true] at hb; cases hb
  have e05 := e04.trans e5
  refine qd_par (K := K) (d1 := resD (runX m0 p v)) (d2 := resD (runX m0 q bv)) (eda_cons (ed_call (K := K) (eda_cons (ed_var (i := 0) rfl (h1.ex e05)) (eda_cons (ed_var (i := 2) rfl (hz2.ex e5)) (eda_cons (ed_var (i := 3) rfl (h4.ex e05)) eda_nil))) ⟨p, m0, v, rfl, R0, by omega, rfl⟩) (eda_cons (ed_call (K := K) (eda_cons (ed_var (i := 1) rfl (h2.ex e05)) (eda_cons (ed_var (i := 2) rfl (hz2.ex e5)) (eda_cons (ed_var (i := 5) rfl (q5.ex (e14.trans e5))) eda_nil))) ⟨q, m0, bv, rfl, Rq, by omega, rfl⟩) eda_nil)) fun v11 v12 H6 e6 hv11 hv12 => ?_
  have e06 := e05.trans e6
  refine qd_asg (K := K) (ed_ixT (ed_ixT (ed_var (i := 11) rfl hv11) (ed_int (i := 2)) rfl) (ed_int (i := 0)) rfl) fun v13 H7 e7 hv13 => ?_
  obtain rfl := dp_int hv13
  have t1 := tch_le R0
  have t2 := tch_le Rq
  have s1 := said_le R0
  have s2 := said_le Rq
  refine qd_asg (K := K) (ed_catT (ed_ixT (ed_ixT (ed_var (i := 11) rfl (hv11.ex e7)) (ed_int (i := 2)) rfl) (ed_int (i := 1)) rfl) (edl_add (K := K) (g := ((runX m0 p v).beats + ·)) (σ := [some x, some y, some z2, some t, some u4, some u5, some u6, some v7, none, none, none, some v11, some v12, some (.int (runX m0 p v).beats), none]) (l := (runX m0 q bv).touches) (by omega) (ed_ixT (ed_ixT (ed_var (i := 12) rfl (hv12.ex e7)) (ed_int (i := 2)) rfl) (ed_int (i := 1)) rfl) (fun _ _ _ => rfl) (fun _ _ _ => ⟨rfl, rfl⟩) fun i b c H2 e2 => ed_add (ed_var (i := 13) rfl (.int _)) (ed_var (i := 8) rfl (.int i))) (by rw [List.length_map, List.length_map, List.length_map]; omega)) fun v14 H8 e8 hv14 => ?_
  have e08 := (e06.trans e7).trans e8
  have e68 := e7.trans e8
  have hra := res_app hn0 p q v bv hbv0
  exact sd_ret (K := K) (d := .bool true) (ed_is (ed_eqD (dx := resD (runX m0 (p.app q) v)) (dy := resD (runX m0 (p.app q) v)) (ed_call (K := K) (eda_cons (pq rfl rfl e08) (eda_cons (ed_var (i := 2) rfl (hz2.ex ((e5.trans e6).trans e68))) (eda_cons (ed_var (i := 3) rfl (h4.ex e08)) eda_nil))) ⟨p.app q, m0, v, rfl, Ra, by omega, rfl⟩)
    (ed_is (ed_tup (eda_cons (ed_catT (ed_ixT (ed_var (i := 11) rfl (hv11.ex e68)) (ed_int (i := 0)) rfl) (ed_ixT (ed_var (i := 12) rfl (hv12.ex e68)) (ed_int (i := 0)) rfl) (by rw [List.length_map, List.length_map]; omega)) (eda_cons (ed_ixT (ed_var (i := 12) rfl (hv12.ex e68)) (ed_int (i := 1)) rfl) (eda_cons (ed_tup (eda_cons (ed_add (ed_var (i := 13) rfl (.int _)) (ed_ixT (ed_ixT (ed_var (i := 12) rfl (hv12.ex e68)) (ed_int (i := 2)) rfl) (ed_int (i := 0)) rfl)) (eda_cons (ed_var (i := 14) rfl hv14) eda_nil)) (Nat.le_of_ble_eq_true rfl)) eda_nil))) (Nat.le_of_ble_eq_true rfl)) hra.symm) (sh_res _).shaped (sh_res _).shaped) (by rw [eqv_self (plain_res _)])) fun w H9 e9 => kQ w H9 (e08.trans e9)
end
end LW
namespace LW
open PySem PySem.Spec PyProof.Rows L2 Evl
open LB (Deed Lf P Hd S Mk Co Ev StOk)
theorem partT_nonneg : ∀ (l r : List T3) (d : Int), 0 ≤ d → (∀ x ∈ l, 0 ≤ x.1) → (∀ x ∈ r, 0 ≤ x.1) → 0 ≤ partT l r d
  | [], [], d, h, _, _ => h
  | t :: _, [], _, _, h, _ => h t List.mem_cons_self
  | [], t :: _, _, _, _, h => h t List.mem_cons_self
  | t :: l, u :: r, d, h, h1, h2 => by
    unfold partT
    split
    · exact partT_nonneg l r d h (fun x m => h1 x (List.mem_cons_of_mem _ m)) fun x m => h2 x (List.mem_cons_of_mem _ m)
    · have a := h1 t List.mem_cons_self
      have b := h2 u List.mem_cons_self
      unfold mn
      split <;> assumption
theorem last_in (met : List (List Nat × Int)) (b : Int) (h : ∃ e ∈ met, e.2 ≤ b) : ∃ e ∈ met, e.2 ≤ b ∧ lastAt met b = pathD e.1 := by
  obtain ⟨e0, m0, h0⟩ := h
  unfold lastAt
  cases hq : (met.filter fun e => decide (e.2 ≤ b)).getLast? with
  | none =>
    have := List.getLast?_eq_none_iff.mp hq
    have hm : e0 ∈ met.filter fun e => decide (e.2 ≤ b) := List.mem_filter.mpr ⟨m0, decide_eq_true h0⟩
    rw [this] at hm
    cases hm
  | some e =>
    have hm := List.mem_filter.mp (List.mem_of_getLast? hq)
    exact ⟨e, hm.1, of_decide_eq_true hm.2, rfl⟩
theorem run_ok {p : P} {m : Mk} {v : W2} (R : RunOk p m v) : ∀ e ∈ (LB.runQ xr bt m p v).2, LB.EvOk m e := fun e he => (LB.sem_ok ops m R.mkk.long p R.ok [] 0 (LB.start0 v) R.good e he).1
theorem beats_nn {p : P} {m : Mk} {v : W2} (R : RunOk p m v) : 0 ≤ (runX m p v).beats := by
  have h := LB.durs_nonneg _ (run_ok R)
  rw [← LB.runS_beats] at h
  exact h
theorem tch_nn {p : P} {m : Mk} {v : W2} (R : RunOk p m v) : ∀ t ∈ (runX m p v).touches, 0 ≤ t.1 := LB.tch_nonneg 0 _ (Int.le_refl 0) (run_ok R)
theorem part_nn {p : P} {m : Mk} {v1 v2 : W2} (R1 : RunOk p m v1) (R2 : RunOk p m v2) : 0 ≤ partB (runX m p v1) (runX m p v2) := by
  refine partT_nonneg _ _ _ ?_ (tch_nn R1) (tch_nn R2)
  have a := beats_nn R1
  have b := beats_nn R2
  unfold mn
  split <;> assumption
theorem met0 {p : P} {m : Mk} {v : W2} (R : RunOk p m v) (hp : p ≠ .nil) : ∃ e ∈ (runX m p v).met, e.2 = 0 := by
  have h := LB.sem_some (xor := xr) (bits := bt) m p R.ok [] 0 (LB.start0 v) hp
  show ∃ e ∈ LB.metOf 0 (LB.sem xr bt m p [] 0 (LB.start0 v)).2, e.2 = 0
  cases hq : (LB.sem xr bt m p [] 0 (LB.start0 v)).2 with
  | nil => exact (h hq).elim
  | cons e l => exact ⟨(e.path, 0), List.mem_cons_self, rfl⟩
theorem unlike_some {p : P} {m : Mk} {v1 v2 : W2} (h : likeS (runX m p v1) (runX m p v2) = false) : p ≠ .nil := fun e => by
  subst e
  unfold likeS at h
  exact absurd h (by rw [decide_eq_true (show ((runX m .nil v1).beats, (runX m .nil v1).touches) = ((runX m .nil v2).beats, (runX m .nil v2).touches) from rfl)]; decide)
/-- where two runs part -/
theorem part_at {p : P} {m : Mk} {v1 v2 : W2} (R1 : RunOk p m v1) (R2 : RunOk p m v2) (h : likeS (runX m p v1) (runX m p v2) = false) (v : W2) (R : RunOk p m v) :
    ∃ e ∈ (runX m p v).met, e.2 ≤ partB (runX m p v1) (runX m p v2) ∧ lastAt (runX m p v).met (partB (runX m p v1) (runX m p v2)) = pathD e.1 := by
  obtain ⟨e, he, e0⟩ := met0 R (unlike_some h)
  exact last_in _ _ ⟨e, he, by rw [e0]; exact part_nn R1 R2⟩
def isAt (pa : PyData) (bp : Int) : PyData → Bool
  | .tuple [o, .int b] => PyData.eqv o pa && decide (b ≤ bp)
  | _ => false
theorem plain_path (a : List Nat) : plainD (pathD a) = true := plain_tup (all_map fun _ _ => plain_int _)
section
variable {Pg : Program} {w : World} {K : PySem.W.Frag} {mg : Str → Option Value} {base : Heap} {dF dB aSt aOt aMm C TL : Addr}
theorem ed_repB {σ : L2.St} {H : Hp} {ta : TE} {b : Bool} (h : ED K ta σ H (.bool b)) : ED K (tCB (fun xs H Q => ∃ b, xs = [V.bl b] ∧ Q (.str (if b then "True" else "False")) H) (tCons ta tNil)) σ H (.str (if b then "True" else "False")) := fun H1 e Q q =>
  h H1 e _ fun v H2 e2 hv => ⟨b, by rw [dp_bl hv], q _ H2 e2 (.str _)⟩
abbrev s_law_two_right : Stmt := top 77
theorem sc_law_two_right : FnScope ["_law_program_here", "_law_make_here", "_law_one", "_law_other", "_law_is_like", "_law_found", "_law_path", "_law_world_here", "_law_own", "_law_beat"] ["_law_program_here", "_law_make_here", "_law_one", "_law_other"] (defScope s_law_two_right) := ⟨rfl, rfl, rfl, by decide +kernel, rfl, by decide +kernel, by decide +kernel⟩
def R_two_right (ds : List PyData) (d : PyData) : Prop := ∃ (p : P) (m : Mk) (v1 v2 : W2), ds = [.tuple (progD p), makeD m, wD v1, wD v2] ∧ RunOk p m v1 ∧ RunOk p m v2 ∧ many m p v1 < 300 ∧ d = .bool true
theorem c_law_two_right (D : Df K mg "_law_two_right" s_law_two_right ["_law_program_here", "_law_make_here", "_law_one", "_law_other"]) (T : Txt K mg w dF dB aSt aOt aMm) (c_run : Cl Pg w K mg base 32 "run" (spD K 3 R_run)) (c_events : Cl Pg w K mg base 32 "events" (spDL K 3 R_events)) (c_law_fits : Cl Pg w K mg base 33 "_law_fits" (spD K 3 R_fits))
    (c_parted : Cl Pg w K mg base 33 "parted" (spD K 4 (R_two partedD))) (c_seen_alike : Cl Pg w K mg base 33 "seen_alike" (spD K 4 (R_two fun s t => .bool (likeS s t)))) : Cl Pg w K mg base 34 "_law_two_right" (spD K 4 R_two_right) := by
  refine D.cl sc_law_two_right (fun vs H Q E h => h.1) (fun f cdv A outer s H vs Q E hr h => ?_)
  refine ⟨_, (pss_cons (ps_if (pt_not (pt_val (pe_u c_law_fits hr (by omega) rfl (pa_cons (pv 0) (pa_cons (pv 1) (pa_cons (pv 3) pa_nil)))))) (pss_one (ps_ret pe_bl)) pss_nil)
    (pss_cons (ps_set (i := 4) sc_law_two_right.nd rfl (Or.inl rfl) (pe_cmpR (op_eqD hr.units) (pe_ix ix_tup (pe_u c_run hr (by omega) rfl (pa_cons (pv 0) (pa_cons (pv 1) (pa_cons (pv 2) pa_nil)))) pe_int (fun _ _ => rfl)) (pe_ix ix_tup (pe_u c_run hr (by omega) rfl (pa_cons (pv 0) (pa_cons (pv 1) (pa_cons (pv 3) pa_nil)))) pe_int (fun _ _ => rfl)) (nomark _)))
    (pss_cons (ps_set (i := 5) sc_law_two_right.nd rfl (Or.inr rfl) (pe_u c_parted hr (by omega) rfl (pa_cons (pv 0) (pa_cons (pv 1) (pa_cons (pv 2) (pa_cons (pv 3) pa_nil))))))
    (pss_cons (ps_if (PW.pt (pw_or (pt_cmpR op_ne (pe_callB call_repr_bl (by rfl) T.n_repr (by decide +kernel) (pa_cons (pe_u c_seen_alike hr (by omega) rfl (pa_cons (pv 0) (pa_cons (pv 1) (pa_cons (pv 2) (pa_cons (pv 3) pa_nil))))) pa_nil)) (pe_callB call_repr_bl (by rfl) T.n_repr (by decide +kernel) (pa_cons (pv 4) pa_nil)) (nomark _)) (pw_or1 (pt_cmpR op_ne (pv 4) (pe_cmpR op_isN1 (pv 5) pe_non (nomark _)) (nomark _))))) (pss_one (ps_ret pe_bl)) pss_nil)
    (pss_cons (ps_if (pt_cmpR op_isN1 (pv 5) pe_non (nomark _)) (pss_one (ps_ret pe_bl)) pss_nil)
    (pss_cons (ps_for PassesOwn.never rfl (pi_tup (pe_tup (pa_cons (pe_tup (pa_cons (pe_ix ix_tup (pv 5) pe_int (fun _ _ => rfl)) (pa_cons (pv 2) pa_nil))) (pa_cons (pe_tup (pa_cons (pe_ix ix_tup (pv 5) pe_int (fun _ _ => rfl)) (pa_cons (pv 3) pa_nil))) pa_nil)))) (pg_tup rfl (pgs_cons (pg_name (i := 6) sc_law_two_right.nd rfl (Or.inr rfl)) (pgs_cons (pg_name (i := 7) sc_law_two_right.nd rfl (Or.inl rfl)) pgs_nil)))
    (pss_one (ps_if (pt_cmpR (op_eqD hr.units) (pe_lc (own := [("_law_own", 8), ("_law_beat", 9)]) (g := (gTup K 2 (gCons (gName 8) (gCons (gName 9) gNil)))) (by rfl) sc_law_two_right.nd (pi_list (pe_u c_events hr (by omega) rfl (pa_cons (pv 0) (pa_cons (pv 1) (pa_cons (pv 7) pa_nil))))) (blkOk_by (own := [("_law_own", 8), ("_law_beat", 9)]) (N := ["_law_program_here", "_law_make_here", "_law_one", "_law_other", "_law_is_like", "_law_found", "_law_path", "_law_world_here", "_law_own", "_law_beat"]) (sc := defScope s_law_two_right) (by decide +kernel)) (fun _ _ _ _ _ => (pg_tup rfl (pgs_cons (pg_name (i := 8) sc_law_two_right.nd rfl (Or.inl rfl)) (pgs_cons (pg_name (i := 9) sc_law_two_right.nd rfl (Or.inl rfl)) pgs_nil)))) (fun _ _ _ _ _ => (pts_one (PW.pt (pw_and (pt_cmpR (op_eqDK K hr) (pv 8) (pv 6) (nomark _)) (pw_and1 (pt_cmpR op_le (pv 9) (pe_ix (ix_tupK K) (pv 5) pe_int (fun _ _ => rfl)) (nomark _))))))) (fun _ _ _ _ _ => (pv 9))) (pe_lst pa_nil) (nomark _)) (pss_one (ps_ret pe_bl)) pss_nil)))
    (pss_one (ps_ret (pe_cmpR (op_eqD hr.units) (pe_u c_parted hr (by omega) rfl (pa_cons (pv 0) (pa_cons (pv 1) (pa_cons (pv 3) (pa_cons (pv 2) pa_nil))))) (pe_tup (pa_cons (pe_ix ix_tup (pv 5) pe_int (fun _ _ => rfl)) (pa_cons (pe_ix ix_tup (pv 5) pe_int (fun _ _ => rfl)) (pa_cons (pe_ix ix_tup (pv 5) pe_int (fun _ _ => rfl)) pa_nil)))) (nomark _))))))))))
    , ?_⟩
  obtain ⟨_, ds, d, hds, ⟨p, m, v1, v2, rfl, R1, R2, hm1, rfl⟩, kQ⟩ := h
  obtain ⟨x, y, z, u, rfl, h1, h2, h3, h4⟩ := dps4 hds
  refine q_when (b := !decide (many m p v2 < 300)) (et_not (et_dB (ed_call (K := K) (eda_cons (ed_var (i := 0) rfl h1) (eda_cons (ed_var (i := 1) rfl h2) (eda_cons (ed_var (i := 3) rfl h4) eda_nil))) ⟨p, m, v2, rfl, R2, rfl⟩))) (fun _ H1 e1 => sd_ret (d := .bool true) ed_bl fun w H2 e2 => kQ w H2 (e1.trans e2)) fun hb H1 e1 => ?_
  have hm2 : many m p v2 < 300 := by
    by_cases h : many m p v2 < 300
    · exact h
    · rw [decide_eq_false h] at hb; cases hb
  have a3 : ∀ {σ : L2.St} {H' : Hp} {i : Nat} {v : W2} {b : V}, σ[0]? = some (some x) → σ[1]? = some (some y) → σ[i]? = some (some b) → Dp K H' b (wD v) → Ex H H' → EDA K (tCons (tVar 0) (tCons (tVar 1) (tCons (tVar i) tNil))) σ H' [.tuple (progD p), makeD m, wD v] := fun a b c hb e => eda_cons (ed_var a (h1.ex e)) (eda_cons (ed_var b (h2.ex e)) (eda_cons (ed_var c hb) eda_nil))
  have a4 : ∀ {σ : L2.St} {H' : Hp} {i j : Nat} {v v' : W2} {b b' : V}, σ[0]? = some (some x) → σ[1]? = some (some y) → σ[i]? = some (some b) → σ[j]? = some (some b') → Dp K H' b (wD v) → Dp K H' b' (wD v') → Ex H H' → EDA K (tCons (tVar 0) (tCons (tVar 1) (tCons (tVar i) (tCons (tVar j) tNil)))) σ H' [.tuple (progD p), makeD m, wD v, wD v'] := fun a b c c' hb hb' e => eda_cons (ed_var a (h1.ex e)) (eda_cons (ed_var b (h2.ex e)) (eda_cons (ed_var c hb) (eda_cons (ed_var c' hb') eda_nil)))
  refine qd_asg (K := K) (d := .bool (likeS (runX m p v1) (runX m p v2))) (ed_is (ed_eqD (ed_ixT (ed_call (K := K) (d := resD (runX m p v1)) (a3 (i := 2) rfl rfl rfl (h3.ex e1) e1) ⟨p, m, v1, rfl, R1, by omega, rfl⟩) (ed_int (i := 2)) rfl) (ed_ixT (ed_call (K := K) (d := resD (runX m p v2)) (a3 (i := 3) rfl rfl rfl (h4.ex e1) e1) ⟨p, m, v2, rfl, R2, by omega, rfl⟩) (ed_int (i := 2)) rfl) (sh_seen _).shaped (sh_seen _).shaped) (congrArg PyData.bool (eqv_seen _ _))) fun v4' H2 e2 hv4 => ?_
  obtain rfl := dp_bl hv4
  have e02 := e1.trans e2
  refine qd_asg (K := K) (d := partedD (runX m p v1) (runX m p v2)) (ed_call (K := K) (a4 (i := 2) (j := 3) rfl rfl rfl rfl (h3.ex e02) (h4.ex e02) e02) ⟨p, m, v1, v2, rfl, R1, R2, by omega, by omega, rfl⟩) fun v5 H3 e3 hv5 => ?_
  have e03 := e02.trans e3
  have hrep : ∀ {b : Bool} {σ : L2.St} {H' : Hp}, σ[0]? = some (some x) → σ[1]? = some (some y) → σ[2]? = some (some z) → σ[3]? = some (some u) → σ[4]? = some (some (.bl (likeS (runX m p v1) (runX m p v2)))) → Ex H H' → EvT (tTest (tOp rNe (tCB (fun xs H Q => ∃ b, xs = [V.bl b] ∧ Q (.str (if b then "True" else "False")) H) (tCons (tCall (spD K 4 (R_two fun s t => .bool (likeS s t))) [] E (tCons (tVar 0) (tCons (tVar 1) (tCons (tVar 2) (tCons (tVar 3) tNil))))) tNil)) (tCB (fun xs H Q => ∃ b, xs = [V.bl b] ∧ Q (.str (if b then "True" else "False")) H) (tCons (tVar 4) tNil)))) σ H' false := fun a b c d e ex =>
    et_is (et_d (ed_ne (ed_repB (ed_call (K := K) (a4 (i := 2) (j := 3) a b c d (h3.ex ex) (h4.ex ex) ex) ⟨p, m, v1, v2, rfl, R1, R2, by omega, by omega, rfl⟩)) (ed_repB (ed_var (i := 4) e (.bl _))) rfl rfl rfl)) (by simp)
  cases hlike : likeS (runX m p v1) (runX m p v2) with
  | true =>
    have hpd : partedD (runX m p v1) (runX m p v2) = .none := by unfold partedD; rw [hlike]; rfl
    rw [hpd] at hv5
    rw [hlike] at hrep
    obtain rfl := dp_non hv5
    refine q_not (b := false) (et_or (a := false) (hrep (b := true) rfl rfl rfl rfl rfl e03) fun _ => et_is (et_d (ed_ne (K := K) (ed_var (i := 4) rfl (.bl true)) (ed_isN (b := true) (ed_var (i := 5) rfl .non) fun x H1 hx => decide_eq_true (dp_non hx)) rfl rfl rfl)) rfl) rfl fun H4 e4 => ?_
    exact q_yes (b := true) (et_d (ed_isN (K := K) (b := true) (ed_var (i := 5) rfl .non) fun x H1 hx => decide_eq_true (dp_non hx))) rfl fun H5 e5 => sd_ret (d := .bool true) ed_bl fun w H6 e6 => kQ w H6 (((e03.trans e4).trans e5).trans e6)
  | false =>
    obtain ⟨q1, hq1, hb1, hl1⟩ := part_at R1 R2 hlike v1 R1
    obtain ⟨q2, hq2, hb2, hl2⟩ := part_at R1 R2 hlike v2 R2
    have hpd : partedD (runX m p v1) (runX m p v2) = .tuple [.int (partB (runX m p v1) (runX m p v2)), pathD q1.1, pathD q2.1] := by unfold partedD; rw [hlike, hl1, hl2]; rfl
    have hpd2 : partedD (runX m p v2) (runX m p v1) = .tuple [.int (partB (runX m p v1) (runX m p v2)), pathD q2.1, pathD q1.1] := by unfold partedD; rw [likeS_comm, hlike, partB_comm, hl1, hl2]; rfl
    rw [hpd] at hv5
    rw [hlike] at hrep
    obtain ⟨bp, hbp⟩ : ∃ bp, bp = partB (runX m p v1) (runX m p v2) := ⟨_, rfl⟩
    rw [← hbp] at hv5 hb1 hb2 hpd2
    have isn : ∀ {σ : L2.St} {H' : Hp}, σ[5]? = some (some v5) → Ex H3 H' → ED K (tOp rIsN (tVar 5) (tC .non)) σ H' (.bool false) := fun a e => ed_isN (ed_var a (hv5.ex e)) fun x H1 hx => decide_eq_false (fun h => by subst h; obtain ⟨_, _, h, _⟩ := dp_tup hx; cases h)
    refine q_not (b := false) (et_or (a := false) (hrep (b := false) rfl rfl rfl rfl rfl e03) fun _ => et_is (et_d (ed_ne (K := K) (ed_var (i := 4) rfl (.bl false)) (isn rfl (Ex.refl _)) rfl rfl rfl)) rfl) rfl fun H4 e4 => ?_
    refine q_not (b := false) (et_d (isn rfl e4)) rfl fun H5 e5 => ?_
    have e35 := e4.trans e5
    have e05 := e03.trans e35
    refine q_sq ?_
    refine s_forTD (K := K) (ds := [.tuple [pathD q1.1, wD v1], .tuple [pathD q2.1, wD v2]]) (ed_tup (eda_cons (ed_tup (eda_cons (ed_ixT (ed_var (i := 5) rfl (hv5.ex e35)) (ed_int (i := 1)) rfl) (eda_cons (ed_var (i := 2) rfl (h3.ex e05)) eda_nil)) (Nat.le_of_ble_eq_true rfl)) (eda_cons (ed_tup (eda_cons (ed_ixT (ed_var (i := 5) rfl (hv5.ex e35)) (ed_int (i := 2)) rfl) (eda_cons (ed_var (i := 3) rfl (h4.ex e05)) eda_nil)) (Nat.le_of_ble_eq_true rfl)) eda_nil)) (Nat.le_of_ble_eq_true rfl)) (tdats_all (all_cons (tdat_tup (tdats_all (all_cons (tdat_path _) (all_cons (tdat_world _ _) all_nil)))) (all_cons (tdat_tup (tdats_all (all_cons (tdat_path _) (all_cons (tdat_world _ _) all_nil)))) all_nil))) fun H6 e6 => ?_
    have e36 := e35.trans e6
    have e06 := e05.trans e6
    refine ⟨fun i σ' H' => ∃ v6 v7, σ' = [some x, some y, some z, some u, some (.bl false), some v5, v6, v7, none, none] ∧ Ex H6 H', ⟨none, none, rfl, Ex.refl _⟩, fun i σ' H' ⟨_, _, _, e⟩ => Tx.of e, ?_, ?_⟩
    · rintro i d xi σ' H' hi hd ⟨v6, v7, rfl, e7⟩
      have hd2 : ∃ (q : List Nat × Int) (v : W2), d = .tuple [pathD q.1, wD v] ∧ RunOk p m v ∧ many m p v < 300 ∧ q ∈ (runX m p v).met ∧ q.2 ≤ bp := by
        match i, hi with
        | 0, hi => exact ⟨q1, v1, (Option.some.inj hi).symm, R1, hm1, hq1, hb1⟩
        | 1, hi => exact ⟨q2, v2, (Option.some.inj hi).symm, R2, hm2, hq2, hb2⟩
        | _ + 2, hi => cases hi
      obtain ⟨q, v, rfl, R, hm, hq, hqb⟩ := hd2
      obtain ⟨w6, w7, r6, r7, htk⟩ := tk_two (i := 6) (j := 7) hd [some x, some y, some z, some u, some (.bl false), some v5, v6, v7, none, none]
      refine htk _ ?_
      have e07 := e06.trans e7
      have hlen : (runX m p v).met.length < 300 := by
        show (LB.runS xr bt m p v).met.length < 300
        rw [LB.runS_len]
        exact hm
      have hlc := edl_lc (K := K) (H := H') (σ := [some x, some y, some z, some u, some (.bl false), some v5, some w6, some w7, none, none]) (g := gTup K 2 (gCons (gName 8) (gCons (gName 9) gNil))) (tt := tAnd (tTest (tOp (rEqD K) (tVar 8) (tVar 6))) (tTest (tOp (rI0 fun i j => .bl (decide (i ≤ j))) (tVar 9) (tOp (rIxT K) (tVar 5) (tC (.int 0)))))) (vs := [8, 9]) (te := tVar 9) (wi := iList K (tCall (spDL K 3 R_events) [] E (tCons (tVar 0) (tCons (tVar 1) (tCons (tVar 7) tNil))))) (isAt (pathD q.1) bp) sndD (it_lst (ed_ofL (edl_call (a3 (i := 7) rfl rfl rfl r7 e07) (es := (runX m p v).met.map metD) ⟨p, m, v, rfl, R, by omega, rfl⟩))) (by rw [List.length_map]; omega) (fun d hd _ => by
        obtain ⟨q, _, rfl⟩ := List.mem_map.mp hd
        rfl) (fun i d v' H4 e4 hi hd => by
        obtain ⟨e, _, rfl⟩ := List.mem_map.mp (List.mem_of_getElem? hi)
        obtain ⟨w8, w9, r8, r9, htk⟩ := tk_two (i := 8) (j := 9) hd [some x, some y, some z, some u, some (.bl false), some v5, some w6, some w7, none, none]
        exact ⟨_, htk, rfl, et_and (et_d (ed_eqD (ed_var (i := 8) rfl r8) (ed_var (i := 6) rfl (r6.ex e4)) (sh_path _).shaped (sh_path _).shaped)) fun _ => et_d (ed_le (ed_var (i := 9) rfl r9) (ed_ixT (ed_var (i := 5) rfl (hv5.ex ((e36.trans e7).trans e4))) (ed_int (i := 0)) rfl)), fun _ => ed_var (i := 9) rfl r9⟩)
      have hne : ((((runX m p v).met.map metD).filter (isAt (pathD q.1) bp)).map sndD).isEmpty = false := by
        have hm : metD q ∈ ((runX m p v).met.map metD).filter (isAt (pathD q.1) bp) := List.mem_filter.mpr ⟨List.mem_map_of_mem hq, by
          show (PyData.eqv (pathD q.1) (pathD q.1) && decide (q.2 ≤ bp)) = true
          rw [eqv_self (plain_path _), decide_eq_true hqb]
          rfl⟩
        cases hf : ((runX m p v).met.map metD).filter (isAt (pathD q.1) bp) with
        | nil => rw [hf] at hm; cases hm
        | cons a l => rfl
      refine s_not (b := false) (et_is (et_d (ed_eqD (ed_ofL hlc) (ed_ofL (edl_lst eda_nil (Nat.zero_le _))) (sh_lst (n := 1) fun d hd => ?_).shaped (sh_lst (n := 0) all_nil).shaped)) (by rw [eqv_nil, hne])) rfl fun H8 e8 => ⟨_, _, rfl, e7.trans e8⟩
      obtain ⟨a, ha, rfl⟩ := List.mem_map.mp hd
      obtain ⟨e, _, rfl⟩ := List.mem_map.mp (List.mem_filter.mp ha).1
      exact sh_int
    · rintro σ' H' ⟨v6, v7, rfl, e7⟩
      have e07 := e06.trans e7
      have v5D := hv5.ex (e36.trans e7)
      exact sd_ret (K := K) (d := .bool true) (ed_is (ed_eqD (dx := .tuple [.int bp, pathD q2.1, pathD q1.1]) (ed_call (K := K) (a4 (i := 3) (j := 2) rfl rfl rfl rfl (h4.ex e07) (h3.ex e07) e07) ⟨p, m, v2, v1, rfl, R2, R1, by omega, by omega, hpd2.symm⟩) (ed_tup (eda_cons (ed_ixT (ed_var (i := 5) rfl v5D) (ed_int (i := 0)) rfl) (eda_cons (ed_ixT (ed_var (i := 5) rfl v5D) (ed_int (i := 2)) rfl) (eda_cons (ed_ixT (ed_var (i := 5) rfl v5D) (ed_int (i := 1)) rfl) eda_nil))) (Nat.le_of_ble_eq_true rfl)) (sh_tup (n := 2) (all_cons sh_int (all_cons ((sh_path _).mono (by decide)) (all_cons ((sh_path _).mono (by decide)) all_nil)))).shaped (sh_tup (n := 2) (all_cons sh_int (all_cons ((sh_path _).mono (by decide)) (all_cons ((sh_path _).mono (by decide)) all_nil)))).shaped) (by rw [eqv_self (plain_tup (all_cons (plain_int _) (all_cons (plain_path _) (all_cons (plain_path _) all_nil))))])) fun w H9 e9 => kQ w H9 (e07.trans e9)
end
end LW
namespace LW
open PySem PySem.Spec PyProof.Rows L2 Evl
open LB (Deed Lf P Hd S Mk Co Ev StOk)
def worldTo (bx : List Int) (tabs : List (List Int)) (b : Nat) : PyData → PyData
  | .int n => worldD (bx.set b n) tabs
  | d => d
def fitW (m : Mk) (p : P) (tabs : List (List Int)) : PyData → PyData
  | .tuple [.tuple ds, _] => .bool (decide (many m p (unI ds, tabs) < 300))
  | d => d
def likeW (m : Mk) (p : P) (tabs : List (List Int)) (s : S) : PyData → PyData
  | .tuple [.tuple ds, _] => .bool (likeS s (runX m p (unI ds, tabs)))
  | d => d
theorem first_of {α : Type} (q : α → Bool) : ∀ l : List α, (l.filter q = [] ∧ ∀ x ∈ l, q x = false) ∨ ∃ (i : Nat) (x : α) (r : List α), l[i]? = some x ∧ q x = true ∧ (∀ (j : Nat) (y : α), j < i → l[j]? = some y → q y = false) ∧ l.filter q = x :: r
  | [] => .inl ⟨rfl, fun _ h => nomatch h⟩
  | a :: l => by
    cases ha : q a with
    | true => exact .inr ⟨0, a, l.filter q, rfl, ha, fun j _ h => (Nat.not_lt_zero j h).elim, List.filter_cons_of_pos ha⟩
    | false =>
      have hf : (a :: l).filter q = l.filter q := List.filter_cons_of_neg (by rw [ha]; decide)
      rcases first_of q l with ⟨h1, h2⟩ | ⟨i, x, r, h1, h2, h3, h4⟩
      · exact .inl ⟨by rw [hf, h1], fun x hx => by
          rcases List.mem_cons.mp hx with rfl | hx
          · exact ha
          · exact h2 x hx⟩
      · refine .inr ⟨i + 1, x, r, h1, h2, fun j y hj hy => ?_, by rw [hf, h4]⟩
        cases j with
        | zero => cases hy; exact ha
        | succ j => exact h3 j y (by omega) hy
theorem first_range (q : Nat → Bool) (n : Nat) : ((List.range n).filter q = [] ∧ ∀ k, k < n → q k = false) ∨ ∃ (j : Nat) (r : List Nat), j < n ∧ q j = true ∧ (∀ k, k < j → q k = false) ∧ (List.range n).filter q = j :: r := by
  rcases first_of q (List.range n) with ⟨h1, h2⟩ | ⟨i, x, r, h1, h2, h3, h4⟩
  · exact .inl ⟨h1, fun k hk => h2 k (List.mem_range.mpr hk)⟩
  · have hi : i < n := by
      have := (List.getElem?_eq_some_iff.mp h1).1
      rw [List.length_range] at this
      exact this
    rw [List.getElem?_range hi] at h1
    cases h1
    exact .inr ⟨i, r, hi, h2, fun k hk => h3 k k hk (List.getElem?_range (by omega)), h4⟩
theorem inV_bools (bs : List Bool) : inV (.bl false) (bs.map V.bl) = bs.any fun b => !b := by
  unfold inV
  rw [List.any_map]
  congr 1
  funext b
  cases b <;> rfl
theorem plain_uneven (p : P) (m : Mk) (bx : List Int) (tabs : List (List Int)) (b : Nat) : plainD (unevenD p m bx tabs b) = true := by
  unfold unevenD
  split
  · exact plain_none
  · exact plain_tup (all_cons (plain_world _ _) (all_cons (plain_world _ _) all_nil))
theorem sh_uneven (p : P) (m : Mk) (bx : List Int) (tabs : List (List Int)) (b : Nat) : Sh 4 (unevenD p m bx tabs b) := by
  unfold unevenD
  split
  · exact sh_none
  · exact sh_tup (n := 3) (all_cons (sh_world _ _) (all_cons (sh_world _ _) all_nil))
section
variable {Pg : Program} {w : World} {K : PySem.W.Frag} {mg : Str → Option Value} {base : Heap} {dF dB aSt aOt aMm C TL : Addr}
theorem ed_niLB {σ : L2.St} {H : Hp} {tb : TE} {bs : List Bool} (hb : ED K tb σ H (.list (bs.map PyData.bool))) : ED K (tOp (rIn K true) (tC (.bl false)) tb) σ H (.bool (!bs.any fun b => !b)) := ed_op (ed_c (.bl false)) hb fun H1 _ y z hy hz Q q => by
  obtain rfl := dp_bl hy
  obtain ⟨a, ys, rfl, hs, hys⟩ := dp_lst hz
  obtain rfl := dps_bools hys
  refine ⟨a, _, rfl, .inl hs, rfl, List.all_eq_true.mpr fun v hv => by obtain ⟨n, _, rfl⟩ := List.mem_map.mp hv; rfl, ?_⟩
  show Q (.bl (!inV (.bl false) (bs.map V.bl))) H1
  rw [inV_bools]
  exact q _ H1 (Ex.refl H1) (.bl _)
theorem ed_indexF {σ : L2.St} {H : Hp} {tb : TE} {bs : List Bool} {j : Nat} (hb : ED K tb σ H (.list (bs.map PyData.bool))) (hj : bs[j]? = some false) (hl : ∀ i, i < j → bs[i]? = some true) : ED K (tBM K "list" (rIndex K) tb (tCons (tC (.bl false)) tNil)) σ H (.int (j : Int)) := fun H1 e Q q =>
  hb H1 e _ fun z H2 e2 hz => by
    obtain ⟨a, ys, rfl, hs, hys⟩ := dp_lst hz
    obtain rfl := dps_bools hys
    refine ⟨Or.inl ⟨rfl, _, hs⟩, a, _, .bl false, j, .bl false, rfl, rfl, hs, rfl, List.all_eq_true.mpr fun v hv => by obtain ⟨n, _, rfl⟩ := List.mem_map.mp hv; rfl, by rw [List.getElem?_map, hj]; rfl, rfl, fun i z' hi hz' => ?_, q _ H2 e2 (.int _)⟩
    rw [List.getElem?_map, hl i hi] at hz'
    cases hz'
    rfl
theorem parted_isN {x : V} {H : Hp} {s t : S} (h : Dp K H x (partedD s t)) : decide (x = .non) = likeS s t := by
  unfold partedD at h
  cases hl : likeS s t with
  | true =>
    rw [hl, if_pos rfl] at h
    exact decide_eq_true (dp_non h)
  | false =>
    rw [hl, if_neg (by decide)] at h
    obtain ⟨_, _, rfl, _⟩ := dp_tup h
    exact decide_eq_false (fun h => by cases h)
abbrev s_law_uneven_right : Stmt := top 78
theorem sc_law_uneven_right : FnScope ["_law_program_here", "_law_make_here", "_law_world_here", "_law_box", "_law_worlds", "_law_word", "_law_one", "_law_rows", "_law_due"] ["_law_program_here", "_law_make_here", "_law_world_here", "_law_box"] (defScope s_law_uneven_right) := ⟨rfl, rfl, rfl, by decide +kernel, rfl, by decide +kernel, by decide +kernel⟩
def R_uneven_right (ds : List PyData) (d : PyData) : Prop := ∃ (p : P) (m : Mk) (bx : List Int) (tabs : List (List Int)) (b : Nat), ds = [.tuple (progD p), makeD m, worldD bx tabs, nD b] ∧ RunOk p m (bx, tabs) ∧ b < 32 ∧ d = .bool true
theorem c_law_uneven_right (D : Df K mg "_law_uneven_right" s_law_uneven_right ["_law_program_here", "_law_make_here", "_law_world_here", "_law_box"]) (T : Txt K mg w dF dB aSt aOt aMm) (c_law_fits : Cl Pg w K mg base 33 "_law_fits" (spD K 3 R_fits)) (c_parted : Cl Pg w K mg base 33 "parted" (spD K 4 (R_two partedD)))
    (c_uneven : Cl Pg w K mg base 32 "uneven" (spD K 4 R_uneven)) : Cl Pg w K mg base 34 "_law_uneven_right" (spD K 4 R_uneven_right) := by
  refine D.cl sc_law_uneven_right (fun vs H Q E h => h.1) (fun f cdv A outer s H vs Q E hr h => ?_)
  refine ⟨_, (pss_cons (ps_set (i := 4) sc_law_uneven_right.nd rfl (Or.inr rfl) (pe_lc (own := [("_law_word", 5)]) (g := (gName 5)) (tt := tYes) (by rfl) sc_law_uneven_right.nd (pi_range1 rfl T.n_range (pa_cons pe_int pa_nil)) (blkOk_by (own := [("_law_word", 5)]) (N := ["_law_program_here", "_law_make_here", "_law_world_here", "_law_box", "_law_worlds", "_law_word", "_law_one", "_law_rows", "_law_due"]) (sc := defScope s_law_uneven_right) (by decide +kernel)) (fun _ _ _ _ _ => (pg_name (i := 5) sc_law_uneven_right.nd rfl (Or.inl rfl))) (fun _ _ _ _ _ => pts_nil) (fun _ _ _ _ _ => (pe_tup (pa_cons (pe_op (op_catAK K) (pe_op (op_catAK K) (pe_slice (sl_tupAK K) (pe_ix (ix_tupK K) (pv 2) pe_int (fun _ _ => rfl)) po_none (po_some (pv 3))) (pe_tup (pa_cons (pv 5) pa_nil))) (pe_slice (sl_tupAK K) (pe_ix (ix_tupK K) (pv 2) pe_int (fun _ _ => rfl)) (po_some (pe_op op_add (pv 3) pe_int)) po_none)) (pa_cons (pe_ix (ix_tupK K) (pv 2) pe_int (fun _ _ => rfl)) pa_nil))))))
    (pss_cons (ps_if (pt_not (pt_val (pe_callB (cr_all rfl) (by rfl) T.n_all (by decide +kernel) (pa_cons (pe_lc (own := [("_law_one", 6)]) (g := (gName 6)) (tt := tYes) (by rfl) sc_law_uneven_right.nd (pi_list (pv 4)) (blkOk_by (own := [("_law_one", 6)]) (N := ["_law_program_here", "_law_make_here", "_law_world_here", "_law_box", "_law_worlds", "_law_word", "_law_one", "_law_rows", "_law_due"]) (sc := defScope s_law_uneven_right) (by decide +kernel)) (fun _ _ _ _ _ => (pg_name (i := 6) sc_law_uneven_right.nd rfl (Or.inl rfl))) (fun _ _ _ _ _ => pts_nil) (fun _ _ _ _ _ => (pe_u c_law_fits hr (by omega) rfl (pa_cons (pv 0) (pa_cons (pv 1) (pa_cons (pv 6) pa_nil)))))) pa_nil)))) (pss_one (ps_ret pe_bl)) pss_nil)
    (pss_cons (ps_setLc (i := 7) (own := [("_law_one", 6)]) (g := (gName 6)) (tt := tYes) (by rfl) sc_law_uneven_right.nd rfl rfl (sw_true rfl rfl rfl (by decide +kernel)) (pi_list (pv 4)) (blkOk_by (own := [("_law_one", 6)]) (N := ["_law_program_here", "_law_make_here", "_law_world_here", "_law_box", "_law_worlds", "_law_word", "_law_one", "_law_rows", "_law_due"]) (sc := defScope s_law_uneven_right) (by decide +kernel)) (fun _ _ _ _ _ => (pg_name (i := 6) sc_law_uneven_right.nd rfl (Or.inl rfl))) (fun _ _ _ _ _ => pts_nil) (fun _ _ _ _ _ => (pe_cmpR op_isN1 (pe_u c_parted hr (by omega) rfl (pa_cons (pv 0) (pa_cons (pv 1) (pa_cons (pe_ix (ix_listK K) (pv 4) pe_int (fun _ _ => rfl)) (pa_cons (pv 6) pa_nil))))) pe_non (nomark _))))
    (pss_cons (ps_set (i := 8) sc_law_uneven_right.nd rfl (Or.inl rfl) (pe_ifExp (pt_cmpR op_notIn_seq pe_bl (pv 7) (by rfl)) pe_non (pe_tup (pa_cons (pe_ix ix_list (pv 4) pe_int (fun _ _ => rfl)) (pa_cons (pe_ix ix_list (pv 4) (pe_bm PySem.F.plainAttrs_list PySem.F.slot_list_index PySem.F.type_list_index mt_index (pv 7) (pa_cons pe_bl pa_nil)) (fun _ _ => rfl)) pa_nil)))))
    (pss_one (ps_ret (pe_cmpR (op_eqD hr.units) (pe_u c_uneven hr (by omega) rfl (pa_cons (pv 0) (pa_cons (pv 1) (pa_cons (pv 2) (pa_cons (pe_tup (pa_cons (pe_tup (pa_cons (pv 3) pa_nil)) (pa_cons (pe_tup pa_nil) pa_nil))) pa_nil))))) (pv 8) (nomark _))))))))
    , ?_⟩
  obtain ⟨_, ds, d, hds, ⟨p, m, bx, tabs, b, rfl, R, hb, rfl⟩, kQ⟩ := h
  obtain ⟨x, y, z, u, rfl, h1, h2, h3, h4⟩ := dps4 hds
  obtain rfl := dp_int h4
  have hbx : bx.length = 32 := R.good.n
  -- the worlds
  have hlc := edl_lc (K := K) (H := H) (σ := [some x, some y, some z, some (.int (b : Int)), none, none, none, none, none]) (g := gName 5) (tt := tYes) (vs := [5]) (te := tTup (tCons (tOp (rCatA K) (tOp (rCatA K) (tSl (rSlA K) (tOp (rIxT K) (tVar 2) (tC (.int 0))) tNoPart (tPart (tVar 3))) (tTup (tCons (tVar 5) tNil))) (tSl (rSlA K) (tOp (rIxT K) (tVar 2) (tC (.int 0))) (tPart (tOp (rI0 fun i j => .int (i + j)) (tVar 3) (tC (.int 1)))) tNoPart)) (tCons (tOp (rIxT K) (tVar 2) (tC (.int 1))) tNil))) (fun _ => true) (worldTo bx tabs b)
    (it_rng (n := 16) (eda_cons (ed_int (i := 16)) eda_nil) (by decide) (by decide)) (by simp) (fun d hd _ => by
      obtain ⟨k, _, rfl⟩ := List.mem_map.mp hd
      exact tdat_world _ _) (fun i d v' H9 e9 hi hd => by
      obtain ⟨k, _, rfl⟩ := List.mem_map.mp (List.mem_of_getElem? hi)
      refine ⟨_, tk_one _, rfl, et_yes, fun _ => ?_⟩
      have hv : ED K (tOp (rIxT K) (tVar 2) (tC (.int 0))) [some x, some y, some z, some (.int (b : Int)), none, some v', none, none, none] H9 (.tuple (bx.map PyData.int)) := ed_ixT (ed_var (i := 2) rfl (h3.ex e9)) (ed_int (i := 0)) rfl
      have hl0 : (bx.map PyData.int).length = 32 := by rw [List.length_map, hbx]
      refine ed_tup (ds := [.tuple ((bx.set b (k : Nat)).map PyData.int), .tuple (tabs.map fun t => .tuple (t.map PyData.int))]) (eda_cons (ed_is (ed_catT (ed_catT (ed_slT hv eo_none (eo_d (K := K) (ed_var (i := 3) rfl (.int (b : Int))))) (ed_tup (eda_cons (ed_var (i := 5) rfl hd) eda_nil) (Nat.le_of_ble_eq_true rfl)) ?_) (ed_slT hv (eo_d (ed_add (K := K) (ed_var (i := 3) rfl (.int (b : Int))) (ed_int (i := 1)))) eo_none) ?_) ?_) (eda_cons (ed_ixT (ed_var (i := 2) rfl (h3.ex e9)) (ed_int (i := 1)) rfl) eda_nil)) (Nat.le_of_ble_eq_true rfl)
      · rw [cutUpto, List.length_take]; show _ + 1 ≤ 100000; omega
      · rw [cutUpto, show ((b : Int) + 1) = ((b + 1 : Nat) : Int) from rfl, cutFrom, List.length_append, List.length_take, List.length_drop]; show _ + 1 + _ ≤ 100000; omega
      · rw [cutUpto, show ((b : Int) + 1) = ((b + 1 : Nat) : Int) from rfl, cutFrom, set_cut _ _ (by omega)]
        show _ = PyData.tuple ((bx.set b (k : Nat)).map PyData.int)
        rw [List.map_set])
  have hws : ((((List.range (16 : Int).toNat).map fun i => PyData.int (i : Nat)).filter fun _ => true).map (worldTo bx tabs b)) = (List.range 16).map fun k => wD (atW bx tabs b k) := by
    rw [List.filter_eq_self.mpr (fun _ _ => rfl), List.map_map, show (16 : Int).toNat = 16 from rfl]
    exact List.map_congr_left fun k _ => rfl
  rw [hws] at hlc
  refine qd_asgL (K := K) hlc fun l4 xs4 H1 hl4 e1 hx4 hx4D => ?_
  have wsD : ∀ {σ : L2.St} {H' : Hp}, σ[4]? = some (some (.ref l4)) → Ex H1 H' → ED K (tVar 4) σ H' (.list ((List.range 16).map fun k => wD (atW bx tabs b k))) := fun hσ e => ed_var hσ (.lst (sq_of (e _ _ hx4)) (hx4D.ex e))
  have unw : ∀ k : Nat, unI ((bx.set b (k : Nat)).map PyData.int) = bx.set b (k : Nat) := fun k => unI_map _
  -- all fit
  have hlc2 := edl_lc (K := K) (H := H1) (σ := [some x, some y, some z, some (.int (b : Int)), some (.ref l4), none, none, none, none]) (g := gName 6) (tt := tYes) (vs := [6]) (te := tCall (spD K 3 R_fits) [] E (tCons (tVar 0) (tCons (tVar 1) (tCons (tVar 6) tNil)))) (fun _ => true) (fitW m p tabs) (it_lst (wsD rfl (Ex.refl _))) (by simp) (fun d hd _ => by
      obtain ⟨k, _, rfl⟩ := List.mem_map.mp hd
      rfl) (fun i d v' H9 e9 hi hd => by
      obtain ⟨k, hk, rfl⟩ := List.mem_map.mp (List.mem_of_getElem? hi)
      refine ⟨_, tk_one _, rfl, et_yes, fun _ => ed_is (ed_call (K := K) (eda_cons (ed_var (i := 0) rfl (h1.ex (e1.trans e9))) (eda_cons (ed_var (i := 1) rfl (h2.ex (e1.trans e9))) (eda_cons (ed_var (i := 6) rfl hd) eda_nil))) ⟨p, m, atW bx tabs b k, rfl, at_ok R (List.mem_range.mp hk), rfl⟩) ?_⟩
      show _ = PyData.bool (decide (many m p (unI ((bx.set b (k : Nat)).map PyData.int), tabs) < 300))
      rw [unw]
      rfl)
  have hbs : ((((List.range 16).map fun k => wD (atW bx tabs b k)).filter fun _ => true).map (fitW m p tabs)) = ((List.range 16).map fun k => decide (many m p (atW bx tabs b k) < 300)).map PyData.bool := by
    rw [List.filter_eq_self.mpr (fun _ _ => rfl), List.map_map, List.map_map]
    refine List.map_congr_left fun k _ => ?_
    show PyData.bool (decide (many m p (unI ((bx.set b (k : Nat)).map PyData.int), tabs) < 300)) = _
    rw [unw]
    rfl
  rw [hbs] at hlc2
  refine q_when (b := !((List.range 16).map fun k => decide (many m p (atW bx tabs b k) < 300)).all id) (et_not (et_dB (ed_all hlc2))) (fun _ H2 e2 => sd_ret (d := .bool true) ed_bl fun w H3 e3 => kQ w H3 ((e1.trans e2).trans e3)) fun hb2 H2 e2 => ?_
  have hfit : ∀ k, k < 16 → many m p (atW bx tabs b k) < 300 := fun k hk => by
    have h : ((List.range 16).map fun k => decide (many m p (atW bx tabs b k) < 300)).all id = true := by
      cases hq : ((List.range 16).map fun k => decide (many m p (atW bx tabs b k) < 300)).all id with
      | true => rfl
      | false => rw [hq] at hb2; cases hb2
    exact of_decide_eq_true (List.all_eq_true.mp h _ (List.mem_map_of_mem (List.mem_range.mpr hk)))
  have e02 := e1.trans e2
  -- the rows
  have hlc3 := edl_lc (K := K) (H := H2) (σ := [some x, some y, some z, some (.int (b : Int)), some (.ref l4), none, none, none, none]) (g := gName 6) (tt := tYes) (vs := [6]) (te := tOp rIsN (tCall (spD K 4 (R_two partedD)) [] E (tCons (tVar 0) (tCons (tVar 1) (tCons (tOp (rIxL K) (tVar 4) (tC (.int 0))) (tCons (tVar 6) tNil))))) (tC .non)) (fun _ => true) (likeW m p tabs (runX m p (atW bx tabs b 0))) (it_lst (wsD rfl e2)) (by simp) (fun d hd _ => by
      obtain ⟨k, _, rfl⟩ := List.mem_map.mp hd
      rfl) (fun i d v' H9 e9 hi hd => by
      obtain ⟨k, hk, rfl⟩ := List.mem_map.mp (List.mem_of_getElem? hi)
      have hk16 := List.mem_range.mp hk
      have m0 := hfit 0 (by decide)
      have mk := hfit k hk16
      refine ⟨_, tk_one _, rfl, et_yes, fun _ => ed_is (ed_isN (ed_call (K := K) (eda_cons (ed_var (i := 0) rfl (h1.ex (e02.trans e9))) (eda_cons (ed_var (i := 1) rfl (h2.ex (e02.trans e9))) (eda_cons (ed_ixL (wsD rfl (e2.trans e9)) (ed_int (i := 0)) rfl) (eda_cons (ed_var (i := 6) rfl hd) eda_nil)))) ⟨p, m, atW bx tabs b 0, atW bx tabs b k, rfl, at_ok R (by decide), at_ok R hk16, by omega, by omega, rfl⟩) fun x H1 hx => parted_isN hx) ?_⟩
      show _ = PyData.bool (likeS _ (runX m p (unI ((bx.set b (k : Nat)).map PyData.int), tabs)))
      rw [unw]
      rfl)
  have hbs3 : ((((List.range 16).map fun k => wD (atW bx tabs b k)).filter fun _ => true).map (likeW m p tabs (runX m p (atW bx tabs b 0)))) = ((List.range 16).map fun k => likeS (runX m p (atW bx tabs b 0)) (runX m p (atW bx tabs b k))).map PyData.bool := by
    rw [List.filter_eq_self.mpr (fun _ _ => rfl), List.map_map, List.map_map]
    refine List.map_congr_left fun k _ => ?_
    show PyData.bool (likeS _ (runX m p (unI ((bx.set b (k : Nat)).map PyData.int), tabs))) = _
    rw [unw]
    rfl
  rw [hbs3] at hlc3
  refine qd_asgL (K := K) hlc3 fun l7 xs7 H3 hl7 e3 hx7 hx7D => ?_
  have rsD : ∀ {σ : L2.St} {H' : Hp}, σ[7]? = some (some (.ref l7)) → Ex H3 H' → ED K (tVar 7) σ H' (.list (((List.range 16).map fun k => likeS (runX m p (atW bx tabs b 0)) (runX m p (atW bx tabs b k))).map PyData.bool)) := fun hσ e => ed_var hσ (.lst (sq_of (e _ _ hx7)) (hx7D.ex e))
  have e03 := e02.trans e3
  have e13 := e2.trans e3
  have hdue : ED K (tIf (tTest (tOp (rIn K true) (tC (.bl false)) (tVar 7))) (tC .non) (tTup (tCons (tOp (rIxL K) (tVar 4) (tC (.int 0))) (tCons (tOp (rIxL K) (tVar 4) (tBM K "list" (rIndex K) (tVar 7) (tCons (tC (.bl false)) tNil))) tNil)))) [some x, some y, some z, some (.int (b : Int)), some (.ref l4), none, none, some (.ref l7), none] H3 (unevenD p m bx tabs b) := by
    have hat : ∀ (k : Nat), k < 16 → ((List.range 16).map fun k => likeS (runX m p (atW bx tabs b 0)) (runX m p (atW bx tabs b k)))[k]? = some (likeS (runX m p (atW bx tabs b 0)) (runX m p (atW bx tabs b k))) := fun k hk => by rw [List.getElem?_map, List.getElem?_range hk]; rfl
    rcases first_range (fun k => !likeS (runX m p (atW bx tabs b k)) (runX m p (atW bx tabs b 0))) 16 with ⟨hf, ha⟩ | ⟨j, r, hj, hq, hl, hf⟩
    · refine ed_if (b := true) (et_is (et_d (ed_niLB (rsD rfl (Ex.refl _)))) ?_) (fun _ => ed_is ed_non (by unfold unevenD; rw [hf])) (fun h => by cases h)
      rw [List.any_eq_false.mpr fun c hc => ?_]
      · rfl
      · obtain ⟨k, hk, rfl⟩ := List.mem_map.mp hc
        have := ha k (List.mem_range.mp hk)
        rw [likeS_comm, this]
        decide
    · have hjl : likeS (runX m p (atW bx tabs b 0)) (runX m p (atW bx tabs b j)) = false := by
        rw [likeS_comm]
        cases hh : likeS (runX m p (atW bx tabs b j)) (runX m p (atW bx tabs b 0)) with
        | false => rfl
        | true => rw [hh] at hq; cases hq
      refine ed_if (b := false) (et_is (et_d (ed_niLB (rsD rfl (Ex.refl _)))) ?_) (fun h => by cases h) fun _ => ed_is (ed_tup (eda_cons (ed_ixL (wsD rfl e13) (ed_int (i := 0)) rfl) (eda_cons (ed_ixL (i := (j : Int)) (d := wD (atW bx tabs b j)) (wsD rfl e13) (ed_indexF (j := j) (rsD rfl (Ex.refl _)) (by rw [hat j hj, hjl]) fun i hi => ?_) (atI_nat (by rw [List.getElem?_map, List.getElem?_range hj]; rfl))) eda_nil)) (Nat.le_of_ble_eq_true rfl)) (by unfold unevenD; rw [hf])
      · rw [List.any_eq_true.mpr ⟨_, List.mem_map_of_mem (List.mem_range.mpr hj), by rw [hjl]; rfl⟩]
        rfl
      · rw [hat i (by omega), likeS_comm]
        have := hl i hi
        cases hh : likeS (runX m p (atW bx tabs b i)) (runX m p (atW bx tabs b 0)) with
        | true => rfl
        | false => rw [hh] at this; cases this
  refine qd_asg hdue fun v8 H4 e4 hv8 => ?_
  have e04 := e03.trans e4
  exact sd_ret (K := K) (d := .bool true) (ed_is (ed_eqD (dx := unevenD p m bx tabs b) (dy := unevenD p m bx tabs b) (ed_call (K := K) (eda_cons (ed_var (i := 0) rfl (h1.ex e04)) (eda_cons (ed_var (i := 1) rfl (h2.ex e04)) (eda_cons (ed_var (i := 2) rfl (h3.ex e04)) (eda_cons (ed_tup (eda_cons (ed_tup (eda_cons (ed_var (i := 3) rfl (.int (b : Int))) eda_nil) (Nat.le_of_ble_eq_true rfl)) (eda_cons (ed_tup eda_nil (Nat.zero_le _)) eda_nil)) (Nat.le_of_ble_eq_true rfl)) eda_nil)))) ⟨p, m, bx, tabs, b, rfl, R, hb, fun k hk => by have := hfit k hk; omega, rfl⟩) (ed_var (i := 8) rfl hv8) (sh_uneven _ _ _ _ _).shaped (sh_uneven _ _ _ _ _).shaped) (by rw [eqv_self (plain_uneven _ _ _ _ _)])) fun w H5 e5 => kQ w H5 (e04.trans e5)
end
end LW
namespace LW
open PySem PySem.Spec PyProof.Rows L2 Evl
open LB (Deed Lf P Hd S Mk Co Ev StOk MkOk)
theorem dps_strs {K : PySem.W.Frag} {H : Hp} : ∀ {vs : List V} {l : List Str}, DpAll K H vs (l.map PyData.str) → vs = l.map V.str
  | _, [], h => by cases h; rfl
  | _, x :: l, h => by
    cases h with
    | cons h1 h2 => rw [dp_str h1, dps_strs h2]; rfl
theorem q_asgG {te : TE} {g : TG} {tz : TS} {D : Ends} {σ : L2.St} {H : Hp} (h : te σ H fun v H1 => g v σ H1 fun σ2 H2 => tz D σ2 H2) : tSeq (tAsg te g) tz D σ H := h
theorem q_par3 {i j l : Nat} {ta : TA} {tz : TS} {D : Ends} {σ : L2.St} {H : Hp} (h : ta σ H fun vs H1 => ∃ u v w, vs = [u, v, w] ∧ tz D (((σ.set i (some u)).set j (some v)).set l (some w)) H1) : tSeq (tPar3 i j l ta) tz D σ H := h
section
variable {K : PySem.W.Frag} {σ : L2.St} {H : Hp} {a sp : Addr} {ns : List Int} {k : Nat} {Q : VK} {E : XK}
theorem q_world (h0 : σ[0]? = some (some (.ref a))) (h1 : σ[1]? = some (some (.ref sp))) (hsc : Scr K H [sp] a (ns.map V.int)) (hns : ns.length ≤ 63) (hsp : H sp = some (.lst [.int (k : Int)])) (hk : k ≤ 80000)
    (q : ∀ x H' (v : W2) (k' : Nat), LB.Good v.1 v.2 → k' ≤ k + 16 → Dp K H' x (wD v) → Fr [sp] H H' → H' sp = some (.lst [.int (k' : Int)]) → Q x H') : tCall (spWorld K) [] E (tCons (tVar 0) (tCons (tVar 1) tNil)) σ H Q :=
  ⟨_, h0, _, h1, rfl, a, sp, ns, k, rfl, hsc, hns, hsp, hk, q⟩
theorem q_make (h0 : σ[0]? = some (some (.ref a))) (h1 : σ[1]? = some (some (.ref sp))) (hsc : Scr K H [sp] a (ns.map V.int)) (hns : ns.length ≤ 63) (hsp : H sp = some (.lst [.int (k : Int)])) (hk : k ≤ 80000)
    (q : ∀ x H' (m : Mk) (k' : Nat), MkOk m → k' ≤ k + 1 → Dp K H' x (makeD m) → Fr [sp] H H' → H' sp = some (.lst [.int (k' : Int)]) → Q x H') : tCall (spMake K) [] E (tCons (tVar 0) (tCons (tVar 1) tNil)) σ H Q :=
  ⟨_, h0, _, h1, rfl, a, sp, ns, k, rfl, hsc, hns, hsp, hk, q⟩
theorem q_prog {R : List PyData → List PyData → Prop} (hR : R [] (menuL.map PyData.str)) (h0 : σ[0]? = some (some (.ref a))) (h1 : σ[1]? = some (some (.ref sp))) (hsc : Scr K H [sp] a (ns.map V.int)) (hns : ns.length ≤ 63) (hsp : H sp = some (.lst [.int (k : Int)])) (hk : k ≤ 80000)
    (q : ∀ v H' (p : P) (k' : Nat), p.ok 7 → p.size ≤ 40 → k' ≤ k + 200 → Dp K H' v (.tuple (progD p)) → Fr [sp] H H' → H' sp = some (.lst [.int (k' : Int)]) → Q v H') :
    tCall (spProg K) [] E (tCons (tVar 0) (tCons (tVar 1) (tCons (tCall (spDL K 0 R) [] E tNil) tNil))) σ H Q := by
  refine ⟨_, h0, _, h1, ?_⟩
  have hm : EDL K (tCall (spDL K 0 R) [] E tNil) σ H (menuL.map PyData.str) := edl_call eda_nil hR
  exact hm H (Ex.refl H) _ fun mn xs H2 hmn e2 hx hxs => by
    obtain rfl := dps_strs hxs
    exact ⟨rfl, a, sp, mn, ns, k, rfl, hsc.fr (Fr.ex e2), hns, e2 _ _ hsp, hx, (fun h => by rw [h, hsp] at hmn; cases hmn), hk, fun v H' p k' o1 o2 o3 o4 f o5 => q v H' p k' o1 o2 o3 o4 ((Fr.ex e2).trans f) o5⟩
theorem q_progs {H : Hp} {v2 v3 v4 v5 v6 v7 v8 v9 : Option V} {R : List PyData → List PyData → Prop} (hR : R [] (menuL.map PyData.str)) (hsc : Scr K H [sp] a (ns.map V.int)) (hns : ns.length ≤ 63) (hsp : H sp = some (.lst [.int (k : Int)])) (hk : k ≤ 70000)
    (q : ∀ l x1 x2 H' (p1 p2 : P) (k' : Nat), p1.ok 7 → p1.size ≤ 40 → p2.ok 7 → p2.size ≤ 40 → k' ≤ k + 400 → H' l = some (.lst [x1, x2]) → Dp K H' x1 (.tuple (progD p1)) → Dp K H' x2 (.tuple (progD p2)) → Fr [sp] H H' → H' sp = some (.lst [.int (k' : Int)]) → Q (.ref l) H') :
    tLc (iRng1 (tCons (tC (.int 2)) tNil)) (gName 5) tYes (tCall (spProg K) [] E (tCons (tVar 0) (tCons (tVar 1) (tCons (tCall (spDL K 0 R) [] E tNil) tNil)))) [5] [some (.ref a), some (.ref sp), v2, v3, v4, v5, v6, v7, v8, v9] H Q := by
  refine ⟨(2 : Int), rfl, by decide, by decide, fun Dl hD => ?_⟩
  have nD1 : Dl ≠ sp := fun h => by rw [h, hsp] at hD; cases hD
  have nDl : Dl ∉ [sp] := fun h => nD1 (List.mem_singleton.mp h)
  refine ⟨fun i mm H3 => mm = 2 - i ∧ i ≤ 2 ∧ Fr [sp] H H3 ∧ ∃ (ps : List P) (xs : List V) (k' : Nat), H3 Dl = some (.lst xs) ∧ DpAll K H3 xs (ps.map fun p => .tuple (progD p)) ∧ ps.length = i ∧ (∀ p ∈ ps, p.ok 7 ∧ p.size ≤ 40) ∧ k' ≤ k + 200 * i ∧ H3 sp = some (.lst [.int (k' : Int)]),
    ⟨2, rfl, Nat.zero_le _, Fr.ex (Ex.new hD), [], [], k, upd_same, .nil, rfl, (fun _ h => nomatch h), Nat.le_refl _, by rw [upd_ne (Ne.symm nD1)]; exact hsp⟩, ?_⟩
  rintro i mm H3 ⟨rfl, hi, f3, ps, xs, k', hl, hxs, hpl, hok, hkk, hs⟩
  by_cases hlt : i < 2
  · refine .inr ⟨by show i < (2 : Int).toNat; omega, fun H' => ∃ m', m' < 2 - i ∧ (m' = 2 - (i + 1) ∧ i + 1 ≤ 2 ∧ Fr [sp] H H' ∧ ∃ (ps : List P) (xs : List V) (k' : Nat), H' Dl = some (.lst xs) ∧ DpAll K H' xs (ps.map fun p => .tuple (progD p)) ∧ ps.length = i + 1 ∧ (∀ p ∈ ps, p.ok 7 ∧ p.size ≤ 40) ∧ k' ≤ k + 200 * (i + 1) ∧ H' sp = some (.lst [.int (k' : Int)])), fun H' h => h, ?_⟩
    rintro x H4 ⟨rfl, rfl⟩
    refine ⟨rfl, ?_⟩
    refine q_prog (K := K) (E := E) hR rfl rfl (hsc.fr f3) hns hs (by omega) fun v H5 p k2 hp hp2 hk2 hv2 f5 hs5 => ?_
    have hl5 := f5 _ _ hl nDl
    have tx5 := f5.tx fun b hb => by rw [List.mem_singleton.mp hb]; exact .lst hs
    refine ⟨xs, hl5, sz_lt (by rw [dps_len hxs, List.length_map, hpl]; omega), 2 - (i + 1), by omega, rfl, hlt, ?_, ps ++ [p], xs ++ [v], k2, upd_same, ?_, by rw [List.length_append, hpl]; rfl, fun p' hm' => ?_, by omega, by rw [upd_ne (Ne.symm nD1)]; exact hs5⟩
    · intro c' o ho hn'
      rw [upd_ne (ne_of_none ho hD)]
      exact f5 _ _ (f3 _ _ ho hn') hn'
    · rw [List.map_append]
      refine dps_mut (dps_app (hxs.tx tx5 (tdats_map (fun p => tdat_prog p) ps)) (dps_one hv2)) (tdats_all fun d' hd' => ?_) hl5
      rcases List.mem_append.mp hd' with hd' | hd'
      · exact tdats_mem (tdats_map (fun p => tdat_prog p) ps) d' hd'
      · rw [List.mem_singleton.mp hd']; exact tdat_prog p
    · rcases List.mem_append.mp hm' with hm' | hm'
      · exact hok p' hm'
      · rw [List.mem_singleton.mp hm']; exact ⟨hp, hp2⟩
  · have hin : i = 2 := by omega
    subst hin
    obtain ⟨p1, p2, rfl⟩ : ∃ p1 p2, ps = [p1, p2] := by
      match ps, hpl with
      | [p1, p2], _ => exact ⟨p1, p2, rfl⟩
    obtain ⟨x1, x2, rfl, hx1, hx2⟩ := dps2 hxs
    have o1 := hok p1 List.mem_cons_self
    have o2 := hok p2 (List.mem_cons_of_mem _ List.mem_cons_self)
    exact .inl ⟨by show (2 : Int).toNat ≤ 2; decide, q Dl x1 x2 H3 p1 p2 k' o1.1 o1.2 o2.1 o2.2 (by omega) hl hx1 hx2 f3 hs⟩
theorem q_runM {x1 x6 : V} {p : P} {v : W2} (h0 : σ[0]? = some (some (.ref a))) (h1 : σ[1]? = some (some (.ref sp))) (h3 : σ[3]? = some (some x1)) (h6 : σ[6]? = some (some x6)) (hp : Dp K H x1 (.tuple (progD p))) (hv : Dp K H x6 (wD v)) (hok : p.ok 8) (hz : p.size ≤ 400) (hg : LB.Good v.1 v.2) (hmany : ∀ m, many m p v ≤ 20000)
    (hsc : Scr K H [sp] a (ns.map V.int)) (hns : ns.length ≤ 63) (hsp : H sp = some (.lst [.int (k : Int)])) (hk : k ≤ 80000)
    (q : ∀ x H' (m : Mk) (k' : Nat), k' ≤ k + 1 → Dp K H' x (.tuple [.tuple ((runX m p v).said.map PyData.int), worldD (runX m p v).boxes (runX m p v).tabs]) → Fr [sp] H H' → H' sp = some (.lst [.int (k' : Int)]) → Q x H') :
    tSl (rSlA K) (tCall (spD K 3 R_run) [] E (tCons (tVar 3) (tCons (tCall (spMake K) [] E (tCons (tVar 0) (tCons (tVar 1) tNil))) (tCons (tVar 6) tNil)))) tNoPart (tPart (tC (.int 2))) σ H Q := by
  refine ⟨x1, h3, ?_⟩
  refine q_make (K := K) (E := E) h0 h1 hsc hns hsp hk fun xm H1 m k' hm hk' hxm f1 hs1 => ?_
  have tx : Tx H H1 := f1.tx fun b hb => by rw [List.mem_singleton.mp hb]; exact .lst hsp
  have hA : ED K (tSl (rSlA K) (tCall (spD K 3 R_run) [] E (tCons (tC x1) (tCons (tC xm) (tCons (tVar 6) tNil)))) tNoPart (tPart (tC (.int 2)))) σ H1 (.tuple (cutD [.tuple ((runX m p v).said.map PyData.int), worldD (runX m p v).boxes (runX m p v).tabs, seenD (runX m p v)] none (some 2))) :=
    ed_slT (ed_call (K := K) (eda_cons (ed_c (hp.tx tx (tdat_prog p))) (eda_cons (ed_c hxm) (eda_cons (ed_var h6 (hv.tx tx (tdat_world _ _))) eda_nil))) ⟨p, m, v, rfl, ⟨hok, hz, hm, hg⟩, hmany m, rfl⟩) eo_none (eo_c (i := 2))
  exact hA H1 (Ex.refl H1) Q fun x H2 e2 hx => q x H2 m k' hk' (by
    rw [show (2 : Int) = ((2 : Nat) : Int) from rfl, cutUpto] at hx
    exact hx) (f1.trans (Fr.ex e2)) (e2 _ _ hs1)
theorem q_runNe {x1 x6 x8 : V} {p : P} {m : Mk} {v : W2} {tu tz : TS} {D : Ends} (h0 : σ[0]? = some (some (.ref a))) (h1 : σ[1]? = some (some (.ref sp))) (h3 : σ[3]? = some (some x1)) (h6 : σ[6]? = some (some x6)) (h8 : σ[8]? = some (some x8)) (hp : Dp K H x1 (.tuple (progD p))) (hv : Dp K H x6 (wD v)) (hm : Dp K H x8 (makeD m)) (R : RunOk p m v) (hmany : many m p v < 300)
    (hsc : Scr K H [sp] a (ns.map V.int)) (hns : ns.length ≤ 63) (hsp : H sp = some (.lst [.int (k : Int)])) (hk : k ≤ 80000)
    (q : ∀ H' (k' : Nat), k' ≤ k + 1 → Fr [sp] H H' → H' sp = some (.lst [.int (k' : Int)]) → tz D σ H') :
    tSeq (tIfS (tTest (tOp (rNeD K) (tSl (rSlA K) (tCall (spD K 3 R_run) [] E (tCons (tVar 3) (tCons (tCall (spMake K) [] E (tCons (tVar 0) (tCons (tVar 1) tNil))) (tCons (tVar 6) tNil)))) tNoPart (tPart (tC (.int 2)))) (tSl (rSlA K) (tCall (spD K 3 R_run) [] E (tCons (tVar 3) (tCons (tVar 8) (tCons (tVar 6) tNil)))) tNoPart (tPart (tC (.int 2)))))) tu tNext) tz D σ H := by
  unfold tSeq tIfS tTest tOp
  refine q_runM (K := K) (E := E) h0 h1 h3 h6 hp hv R.ok R.size R.good (fun m' => by rw [many_make m' m]; omega) hsc hns hsp hk fun x H1 m' k' hk' hx f hs => ?_
  have tx : Tx H H1 := f.tx fun b hb => by rw [List.mem_singleton.mp hb]; exact .lst hsp
  have hB : ED K (tSl (rSlA K) (tCall (spD K 3 R_run) [] E (tCons (tVar 3) (tCons (tVar 8) (tCons (tVar 6) tNil)))) tNoPart (tPart (tC (.int 2)))) σ H1 (.tuple [.tuple ((runX m p v).said.map PyData.int), worldD (runX m p v).boxes (runX m p v).tabs]) :=
    ed_is (ed_slT (ed_call (K := K) (d := resD (runX m p v)) (eda_cons (ed_var h3 (hp.tx tx (tdat_prog p))) (eda_cons (ed_var h8 (hm.tx tx (tdat_make m))) (eda_cons (ed_var h6 (hv.tx tx (tdat_world _ _))) eda_nil))) ⟨p, m, v, rfl, R, by omega, rfl⟩) eo_none (eo_c (i := 2))) (by rw [show (2 : Int) = ((2 : Nat) : Int) from rfl, cutUpto]; rfl)
  have he : (runX m' p v).said = (runX m p v).said ∧ (runX m' p v).boxes = (runX m p v).boxes ∧ (runX m' p v).tabs = (runX m p v).tabs := by
    obtain ⟨a, b, c, _⟩ := LB.run_makes (xor := xr) (bits := bt) m' m p v
    exact ⟨a, b, c⟩
  rw [he.1, he.2.1, he.2.2] at hx
  have shp : SeqAt.shaped (.tuple [.tuple ((runX m p v).said.map PyData.int), worldD (runX m p v).boxes (runX m p v).tabs]) = true := (sh_tup (n := 3) (all_cons (sh_tup (n := 2) (sh_ints _)) (all_cons (sh_world _ _) all_nil))).shaped
  have ht : EvT (tTest (tOp (rNeD K) (tC x) (tSl (rSlA K) (tCall (spD K 3 R_run) [] E (tCons (tVar 3) (tCons (tVar 8) (tCons (tVar 6) tNil)))) tNoPart (tPart (tC (.int 2)))))) σ H1 false := et_is (et_d (ed_neD (ed_c hx) hB shp shp)) (by rw [eqv_self (plain_tup (all_cons (plain_tup (all_map fun _ _ => plain_int _)) (all_cons (plain_world _ _) all_nil)))]; rfl)
  exact (show tSeq (tIfS (tTest (tOp (rNeD K) (tC x) (tSl (rSlA K) (tCall (spD K 3 R_run) [] E (tCons (tVar 3) (tCons (tVar 8) (tCons (tVar 6) tNil)))) tNoPart (tPart (tC (.int 2)))))) tu tNext) tz D σ H1 from q_not (b := false) ht rfl fun H2 e2 => q H2 k' hk' (f.trans (Fr.ex e2)) (e2 _ _ hs))
theorem q_box {i : Nat} {tz : TS} {D : Ends} (h0 : σ[0]? = some (some (.ref a))) (h1 : σ[1]? = some (some (.ref sp))) (hsc : Scr K H [sp] a (ns.map V.int)) (hns : ns.length ≤ 63) (hsp : H sp = some (.lst [.int (k : Int)])) (hk : k ≤ 80000)
    (q : ∀ (b : Nat) H', b < 32 → Fr [sp] H H' → H' sp = some (.lst [.int ((k + 1 : Nat) : Int)]) → tz D (σ.set i (some (.int (b : Int)))) H') :
    tSeq (tAsg (tOp (rI (fun _ j => 0 < j) fun i j => .int (i % j)) (tCall (spCell K) [] E (tCons (tVar 0) (tCons (tVar 1) tNil))) (tC (.int 32))) (gName i)) tz D σ H := by
  refine q_cell (K := K) (E := E) (ev_var h0) (ev_var h1) hsc hns hsp (by omega) fun n H1 hn f1 hs1 => ?_
  refine ⟨_, _, rfl, rfl, (show (0 : Int) < 32 by decide), ?_⟩
  show tz D (σ.set i (some (.int ((n : Int) % 32)))) H1
  have := q (n % 32) H1 (Nat.mod_lt _ (by decide)) f1 hs1
  exact this
theorem ed_repT {ta : TE} {d : PyData} {n : Nat} (h : ED K ta σ H (.tuple [d])) (h2 : 2 ≤ n) (hn : n ≤ 1000) : ED K (tOp (rRepT K) ta (tC (.int (n : Int)))) σ H (.tuple (List.replicate n d)) := fun H1 e Q q =>
  h H1 e _ fun x H2 e2 hx => by
    obtain ⟨p, xs, rfl, hs, hxs⟩ := dp_tup hx
    obtain ⟨v, rfl, hv⟩ := dps1 hxs
    have hrep : ∀ n : Nat, (List.replicate n [v]).flatten = List.replicate n v := fun n => by
      induction n with
      | zero => rfl
      | succ n ih => rw [List.replicate_succ, List.flatten_cons, ih]; rfl
    have hdp : ∀ (n : Nat) {H3 : Hp}, Dp K H3 v d → DpAll K H3 (List.replicate n v) (List.replicate n d) := fun n H3 hv => by
      induction n with
      | zero => exact .nil
      | succ n ih => exact .cons hv ih
    refine ⟨p, (n : Int), [v], rfl, rfl, hs, List.cons_ne_nil _ _, by omega, by omega, by show 1 ≤ 1000; decide, fun t ht => ?_⟩
    rw [show ((n : Int)).toNat = n by omega, hrep]
    exact q _ _ (e2.trans (Ex.new ht)) (.tup (st_of upd_same) (hdp n (hv.ex (Ex.new ht))))
end
def lastP : P := .lf (.idle 7) (.lf (.touch 3 0) .nil)
def lastM : Mk := ⟨0, 9, 0, 0, 0⟩
def lastW : W2 := (List.replicate 32 13, List.replicate 4 (List.replicate 16 0))
theorem last_seen : seenD (runX lastM lastP lastW) = .tuple [.int 17, .tuple [.tuple [.int 7, .int 3, .int 3]]] := rfl
theorem last_many : many lastM lastP lastW = 2 := rfl
theorem last_ok : RunOk lastP lastM lastW := ⟨⟨by decide, by show 1 ≤ 7 ∧ 7 ≤ 60; decide, by decide, by show 3 < 4 ∧ 0 < 32; decide, trivial⟩, by decide, ⟨by decide, by decide, by decide, by decide, by decide⟩, ⟨rfl, fun i hi => by rw [List.eq_of_mem_replicate hi]; exact ⟨by decide, by decide⟩, rfl, fun t ht => by rw [List.eq_of_mem_replicate ht]; exact ⟨rfl, fun i hi => by rw [List.eq_of_mem_replicate hi]; exact ⟨by decide, by decide⟩⟩⟩⟩
section
variable {Pg : Program} {w : World} {K : PySem.W.Frag} {mg : Str → Option Value} {base : Heap} {dF dB aSt aOt aMm C TL : Addr}
abbrev s_law : Stmt := top 79
theorem sc_law : FnScope ["_law_script", "_law_spot", "_law_k", "_law_program_here", "_law_other", "_law_turn", "_law_one", "_law_two", "_law_make_here", "_law_box"] ["_law_script"] (defScope s_law) := ⟨rfl, rfl, rfl, by decide +kernel, rfl, by decide +kernel, by decide +kernel⟩
def spLaw (K : PySem.W.Frag) : Sp := fun vs H Q _ => vs.length = 1 ∧ ∃ (a : Addr) (ns : List Int), vs = [.ref a] ∧ SqL K H a (ns.map V.int) ∧ ns.length ≤ 63 ∧ ∀ H', Q (.bl true) H'
theorem c_law {f : Addr} {fd : FuncData} (F : Fun K "law" "law" s_law f fd) (T : Txt K mg w dF dB aSt aOt aMm) (c_run : Cl Pg w K mg base 32 "run" (spD K 3 R_run)) (c_law_program : Cl Pg w K mg base 16 "_law_program" (spProg K)) (c_law_menu : Cl Pg w K mg base 1 "_law_menu" (spDL K 0 fun ds es => ds = [] ∧ es = menuL.map PyData.str)) (c_law_world : Cl Pg w K mg base 2 "_law_world" (spWorld K)) (c_law_make : Cl Pg w K mg base 2 "_law_make" (spMake K)) (c_law_cell : Cl Pg w K mg base 1 "_law_cell" (spCell K))
    (c_law_fits : Cl Pg w K mg base 33 "_law_fits" (spD K 3 R_fits)) (c_law_events_right : Cl Pg w K mg base 33 "_law_events_right" (spD K 3 R_events_right)) (c_law_put_right : Cl Pg w K mg base 34 "_law_put_right" (spD K 4 R_put_right)) (c_law_two_right : Cl Pg w K mg base 34 "_law_two_right" (spD K 4 R_two_right)) (c_law_uneven_right : Cl Pg w K mg base 34 "_law_uneven_right" (spD K 4 R_uneven_right)) :
    FnOk Pg w K mg base CX0 35 f fd ["_law_script"] (spLaw K) := by
  refine F.ok sc_law (fun vs H Q E h => h.1) (fun cdv A outer s H vs Q E hr h => ?_)
  refine ⟨_, (pss_cons (ps_set (i := 1) sc_law.nd rfl (Or.inr rfl) (pe_lst (pa_cons pe_int pa_nil)))
    (pss_cons (ps_for PassesOwn.never rfl (pi_range1 rfl T.n_range (pa_cons (pe_op op_add pe_int (pe_callB (call_min2 rfl) (by rfl) T.n_min (by decide +kernel) (pa_cons pe_int (pa_cons (pe_callB call_len_seq (by rfl) T.n_len (by decide +kernel) (pa_cons (pv 0) pa_nil)) pa_nil)))) pa_nil)) (pg_name (i := 2) sc_law.nd rfl (Or.inl rfl))
    (pss_cons (ps_asg (pe_lc (own := [("_law_turn", 5)]) (g := (gName 5)) (tt := tYes) (by rfl) sc_law.nd (pi_range1 rfl T.n_range (pa_cons pe_int pa_nil)) (blkOk_by (own := [("_law_turn", 5)]) (N := ["_law_script", "_law_spot", "_law_k", "_law_program_here", "_law_other", "_law_turn", "_law_one", "_law_two", "_law_make_here", "_law_box"]) (sc := defScope s_law) (by decide +kernel)) (fun _ _ _ _ _ => (pg_name (i := 5) sc_law.nd rfl (Or.inl rfl))) (fun _ _ _ _ _ => pts_nil) (fun _ _ _ _ _ => (pe_u c_law_program hr (by omega) rfl (pa_cons (pv 0) (pa_cons (pv 1) (pa_cons (pe_u0 c_law_menu hr (by omega) rfl) pa_nil)))))) (pg_unl (n := 2) rfl (pgs_cons (pg_name (i := 3) sc_law.nd rfl (Or.inl rfl)) (pgs_cons (pg_name (i := 4) sc_law.nd rfl (Or.inl rfl)) pgs_nil))))
    (pss_cons (ps_par3 (i := 6) (j := 7) (l := 8) (by rfl) sc_law.nd rfl rfl rfl (by decide) (by decide) (by decide) rfl rfl rfl (pa_cons (pe_u c_law_world hr (by omega) rfl (pa_cons (pv 0) (pa_cons (pv 1) pa_nil))) (pa_cons (pe_u c_law_world hr (by omega) rfl (pa_cons (pv 0) (pa_cons (pv 1) pa_nil))) (pa_cons (pe_u c_law_make hr (by omega) rfl (pa_cons (pv 0) (pa_cons (pv 1) pa_nil))) pa_nil))) (by rfl))
    (pss_one (ps_if (pt_val (pe_u c_law_fits hr (by omega) rfl (pa_cons (pv 3) (pa_cons (pv 8) (pa_cons (pv 6) pa_nil))))) (pss_cons (ps_if (PW.pt (pw_or (pt_not (pt_val (pe_u c_law_events_right hr (by omega) rfl (pa_cons (pv 3) (pa_cons (pv 8) (pa_cons (pv 6) pa_nil)))))) (pw_or1 (pt_not (pt_val (pe_u c_law_put_right hr (by omega) rfl (pa_cons (pv 3) (pa_cons (pv 4) (pa_cons (pv 8) (pa_cons (pv 6) pa_nil)))))))))) (pss_one (ps_ret pe_bl)) pss_nil)
    (pss_cons (ps_if (pt_cmpR (op_neD hr.units) (pe_slice sl_tupA (pe_u c_run hr (by omega) rfl (pa_cons (pv 3) (pa_cons (pe_u c_law_make hr (by omega) rfl (pa_cons (pv 0) (pa_cons (pv 1) pa_nil))) (pa_cons (pv 6) pa_nil)))) po_none (po_some pe_int)) (pe_slice sl_tupA (pe_u c_run hr (by omega) rfl (pa_cons (pv 3) (pa_cons (pv 8) (pa_cons (pv 6) pa_nil)))) po_none (po_some pe_int)) (nomark _)) (pss_one (ps_ret pe_bl)) pss_nil)
    (pss_cons (ps_if (pt_not (pt_val (pe_u c_law_two_right hr (by omega) rfl (pa_cons (pv 3) (pa_cons (pv 8) (pa_cons (pv 6) (pa_cons (pv 7) pa_nil))))))) (pss_one (ps_ret pe_bl)) pss_nil)
    (pss_cons (ps_set (i := 9) sc_law.nd rfl (Or.inl rfl) (pe_op op_mod (pe_u c_law_cell hr (by omega) rfl (pa_cons (pv 0) (pa_cons (pv 1) pa_nil))) pe_int))
    (pss_one (ps_if (PW.pt (pw_and (pt_cmpR op_lt (pv 2) pe_int (nomark _)) (pw_and1 (pt_not (pt_val (pe_u c_law_uneven_right hr (by omega) rfl (pa_cons (pv 3) (pa_cons (pv 8) (pa_cons (pv 6) (pa_cons (pv 9) pa_nil)))))))))) (pss_one (ps_ret pe_bl)) pss_nil)))))) pss_nil)))))
    (pss_one (ps_ret (pe_cmpR (op_eqD hr.units) (pe_ix ix_tup (pe_u c_run hr (by omega) rfl (pa_cons (pe_tup (pa_cons (pe_tup (pa_cons pe_str (pa_cons pe_int pa_nil))) (pa_cons (pe_tup (pa_cons pe_str (pa_cons pe_int (pa_cons pe_int pa_nil)))) pa_nil))) (pa_cons (pe_tup (pa_cons pe_int (pa_cons pe_int (pa_cons pe_int (pa_cons pe_int (pa_cons pe_int pa_nil)))))) (pa_cons (pe_tup (pa_cons (pe_op op_repT (pe_tup (pa_cons pe_int pa_nil)) pe_int) (pa_cons (pe_op op_repT (pe_tup (pa_cons (pe_op op_repT (pe_tup (pa_cons pe_int pa_nil)) pe_int) pa_nil)) pe_int) pa_nil))) pa_nil)))) pe_int (fun _ _ => rfl)) (pe_tup (pa_cons pe_int (pa_cons (pe_tup (pa_cons (pe_tup (pa_cons pe_int (pa_cons pe_int (pa_cons pe_int pa_nil)))) pa_nil)) pa_nil))) (nomark _))))))
    , ?_⟩
  obtain ⟨_, a, ns, rfl, hsq, hns, kQ⟩ := h
  refine qd_asgL (K := K) (ds := [.int 0]) (edl_lst (eda_cons ed_int eda_nil) (Nat.le_of_ble_eq_true rfl)) fun sp xs H1 hsp0 e1 hx hxs => ?_
  obtain rfl := dps_ints (ns := [(0 : Int)]) hxs
  have hsc0 : Scr K H [sp] a (ns.map V.int) := Scr.new hsq fun b hb => by rw [List.mem_singleton.mp hb]; exact hsp0
  have hsc1 : Scr K H1 [sp] a (ns.map V.int) := hsc0.fr (Fr.ex e1)
  have hcnt : EDA K (tCons (tOp (rI0 fun i j => .int (i + j)) (tC (.int 2)) (tCB (fun xs H Q => ∃ i j, xs = [V.int i, V.int j] ∧ Q (.int (if j < i then j else i)) H) (tCons (tC (.int 6)) (tCons (tCB (rLenS K) (tCons (tVar 0) tNil)) tNil)))) tNil) [some (.ref a), some (.ref sp), none, none, none, none, none, none, none, none] H1 [.int ((2 + min 6 ns.length : Nat) : Int)] :=
    eda_cons (ed_is (ed_add (ed_int (i := 2)) (ed_min2 (eda_cons (ed_int (i := 6)) (eda_cons (ed_lenL (ed_var (i := 0) rfl hsc1.dp)) eda_nil)))) (congrArg PyData.int (by
      rw [List.length_map]
      unfold mn
      split <;> omega))) eda_nil
  refine q_forR1 (eva_i hcnt) (by omega) (fun i σ' H' => ∃ (v2 v3 v4 v5 v6 v7 v8 v9 : Option V) (k : Nat), σ' = [some (.ref a), some (.ref sp), v2, v3, v4, v5, v6, v7, v8, v9] ∧ Fr [sp] H1 H' ∧ H' sp = some (.lst [.int (k : Int)]) ∧ k ≤ 450 * i)
    (fun H4 e4 => ⟨none, none, none, none, none, none, none, none, 0, rfl, Fr.ex e4, e4 _ _ hx, Nat.zero_le _⟩) ?_ ?_
  · rintro i σ' H' hi ⟨v2, v3, v4, v5, v6, v7, v8, v9, k, rfl, f2, hs2, hk⟩
    have hi8 : i < 8 := by omega
    have sc : ∀ {H3 : Hp}, Fr [sp] H1 H3 → Scr K H3 [sp] a (ns.map V.int) := fun f => hsc1.fr f
    have txF : ∀ {H3 H4 : Hp} {k : Nat}, H3 sp = some (.lst [.int (k : Int)]) → Fr [sp] H3 H4 → Tx H3 H4 := fun h f => f.tx fun b hb => by rw [List.mem_singleton.mp hb]; exact .lst h
    refine q_asgG ?_
    refine q_progs (K := K) ⟨rfl, rfl⟩ (sc f2) hns hs2 (by omega) fun l x1 x2 H3 p q k3 hp7 hps hq7 hqs hk3 hl hx1 hx2 f3 hs3 => ?_
    refine ⟨l, _, rfl, sq_of hl, rfl, x1, _, rfl, x2, _, rfl, rfl, ?_⟩
    have f13 := f2.trans f3
    refine q_par3 ?_
    refine q_world (K := K) rfl rfl (sc f13) hns hs3 (by omega) fun w1 H4 v1 k4 g1 hk4 hw1 f4 hs4 => ?_
    have f14 := f13.trans f4
    refine q_world (K := K) rfl rfl (sc f14) hns hs4 (by omega) fun w2 H5 vv2 k5 g2 hk5 hw2 f5 hs5 => ?_
    have f15 := f14.trans f5
    refine q_make (K := K) rfl rfl (sc f15) hns hs5 (by omega) fun wm H6 m k6 hm hk6 hwm f6 hs6 => ?_
    refine ⟨w1, w2, wm, rfl, ?_⟩
    have f16 := f15.trans f6
    have t46 := (txF hs4 f5).trans (txF hs5 f6)
    have t36 := (txF hs3 f4).trans t46
    have d3 : Dp K H6 x1 (.tuple (progD p)) := hx1.tx t36 (tdat_prog p)
    have d4 : Dp K H6 x2 (.tuple (progD q)) := hx2.tx t36 (tdat_prog q)
    have d6 : Dp K H6 w1 (wD v1) := hw1.tx t46 (tdat_world _ _)
    have d7 : Dp K H6 w2 (wD vv2) := hw2.tx (txF hs5 f6) (tdat_world _ _)
    have R1 : RunOk p m v1 := ⟨p.ok_mono (by decide) hp7, by omega, hm, g1⟩
    have R2 : RunOk p m vv2 := ⟨p.ok_mono (by decide) hp7, by omega, hm, g2⟩
    refine s_when (b := decide (many m p v1 < 300)) (et_dB (ed_call (K := K) (eda_cons (ed_var (i := 3) rfl d3) (eda_cons (ed_var (i := 8) rfl hwm) (eda_cons (ed_var (i := 6) rfl d6) eda_nil))) ⟨p, m, v1, rfl, R1, rfl⟩)) (fun hb H7 e7 => ?_) fun hb H7 e7 => ⟨_, _, _, _, _, _, _, _, k6, rfl, f16.trans (Fr.ex e7), e7 _ _ hs6, by omega⟩
    have hmany := of_decide_eq_true hb
    refine q_not (b := false) (et_or (a := false) (et_not (a := true) (et_dB (ed_call (K := K) (eda_cons (ed_var (i := 3) rfl (d3.ex e7)) (eda_cons (ed_var (i := 8) rfl (hwm.ex e7)) (eda_cons (ed_var (i := 6) rfl (d6.ex e7)) eda_nil))) ⟨p, m, v1, rfl, R1, hmany, rfl⟩))) fun _ => et_not (a := true) (et_dB (ed_call (K := K) (eda_cons (ed_var (i := 3) rfl (d3.ex e7)) (eda_cons (ed_var (i := 4) rfl (d4.ex e7)) (eda_cons (ed_var (i := 8) rfl (hwm.ex e7)) (eda_cons (ed_var (i := 6) rfl (d6.ex e7)) eda_nil)))) ⟨p, q, m, v1, rfl, R1, hp7, hq7, hps, hqs, hmany, rfl⟩))) rfl fun H8 e8 => ?_
    have e68 := e7.trans e8
    have f18 := f16.trans (Fr.ex e68)
    refine q_runNe (K := K) (m := m) rfl rfl rfl rfl rfl (d3.ex e68) (d6.ex e68) (hwm.ex e68) R1 hmany (sc f18) hns (e68 _ _ hs6) (by omega) fun H9 k9 hk9 f9 hs9 => ?_
    have f19 := f18.trans f9
    have t9 := txF (e68 _ _ hs6) f9
    have d3' := (d3.ex e68).tx t9 (tdat_prog p)
    have d6' := (d6.ex e68).tx t9 (tdat_world _ _)
    have d7' := (d7.ex e68).tx t9 (tdat_world _ _)
    have d8' := (hwm.ex e68).tx t9 (tdat_make m)
    refine q_not (b := false) (et_not (a := true) (et_dB (ed_call (K := K) (eda_cons (ed_var (i := 3) rfl d3') (eda_cons (ed_var (i := 8) rfl d8') (eda_cons (ed_var (i := 6) rfl d6') (eda_cons (ed_var (i := 7) rfl d7') eda_nil)))) ⟨p, m, v1, vv2, rfl, R1, R2, hmany, rfl⟩))) rfl fun H10 e10 => ?_
    have f110 := f19.trans (Fr.ex e10)
    refine q_box (K := K) rfl rfl (sc f110) hns (e10 _ _ hs9) (by omega) fun b H11 hb32 f11 hs11 => ?_
    have t11 := txF (e10 _ _ hs9) f11
    have d3'' := (d3'.ex e10).tx t11 (tdat_prog p)
    have d6'' := (d6'.ex e10).tx t11 (tdat_world _ _)
    have d8'' := (d8'.ex e10).tx t11 (tdat_make m)
    refine s_not (b := false) (et_is (et_and (a := decide ((i : Int) < 2)) (b := false) (et_d (K := K) (ed_lt (ed_var (i := 2) rfl (.int _)) (ed_int (i := 2)))) fun _ => et_not (a := true) (et_dB (ed_call (K := K) (eda_cons (ed_var (i := 3) rfl d3'') (eda_cons (ed_var (i := 8) rfl d8'') (eda_cons (ed_var (i := 6) rfl d6'') (eda_cons (ed_var (i := 9) rfl (.int (b : Int))) eda_nil)))) ⟨p, m, v1.1, v1.2, b, rfl, R1, hb32, rfl⟩))) (Bool.and_false _)) rfl fun H12 e12 => ?_
    exact ⟨_, _, _, _, _, _, _, _, k9 + 1, rfl, (f110.trans f11).trans (Fr.ex e12), e12 _ _ hs11, by omega⟩
  · rintro σ' H' ⟨v2, v3, v4, v5, v6, v7, v8, v9, k, rfl, f2, hs2, hk⟩
    refine sd_ret (K := K) (d := .bool true) (ed_is (ed_eqD (dx := seenD (runX lastM lastP lastW)) (dy := seenD (runX lastM lastP lastW)) (ed_ixT (ed_call (K := K) (d := resD (runX lastM lastP lastW)) (eda_cons (ed_tup (ds := progD lastP) (eda_cons (ed_tup (eda_cons (ed_str (x := "idle")) (eda_cons (ed_int (i := 7)) eda_nil)) (Nat.le_of_ble_eq_true rfl)) (eda_cons (ed_tup (eda_cons (ed_str (x := "touch")) (eda_cons (ed_int (i := 3)) (eda_cons (ed_int (i := 0)) eda_nil))) (Nat.le_of_ble_eq_true rfl)) eda_nil)) (Nat.le_of_ble_eq_true rfl))
      (eda_cons (d := makeD lastM) (ed_tup (eda_cons (ed_int (i := 0)) (eda_cons (ed_int (i := 9)) (eda_cons (ed_int (i := 0)) (eda_cons (ed_int (i := 0)) (eda_cons (ed_int (i := 0)) eda_nil))))) (Nat.le_of_ble_eq_true rfl)) (eda_cons (d := wD lastW) (ed_is (ed_tup (eda_cons (ed_repT (n := 32) (ed_tup (eda_cons (ed_int (i := 13)) eda_nil) (Nat.le_of_ble_eq_true rfl)) (by decide) (by decide)) (eda_cons (ed_repT (n := 4) (ed_tup (eda_cons (ed_repT (n := 16) (ed_tup (eda_cons (ed_int (i := 0)) eda_nil) (Nat.le_of_ble_eq_true rfl)) (by decide) (by decide)) eda_nil) (Nat.le_of_ble_eq_true rfl)) (by decide) (by decide)) eda_nil)) (Nat.le_of_ble_eq_true rfl)) rfl) eda_nil))) ⟨lastP, lastM, lastW, rfl, last_ok, by rw [last_many]; decide, rfl⟩) (ed_int (i := 2)) rfl)
      (ed_is (ed_tup (eda_cons (ed_int (i := 17)) (eda_cons (ed_tup (eda_cons (ed_tup (eda_cons (ed_int (i := 7)) (eda_cons (ed_int (i := 3)) (eda_cons (ed_int (i := 3)) eda_nil))) (Nat.le_of_ble_eq_true rfl)) eda_nil) (Nat.le_of_ble_eq_true rfl)) eda_nil)) (Nat.le_of_ble_eq_true rfl)) last_seen.symm) (sh_seen _).shaped (sh_seen _).shaped) (congrArg PyData.bool (eqv_self (plain_seen ((runX lastM lastP lastW).beats, (runX lastM lastP lastW).touches))))) fun v H3 e3 hv => ?_
    rw [dp_bl hv]
    exact kQ H3
end
end LW
namespace LW
open PySem PySem.Spec PyProof.Rows L2 Evl
theorem kl_nil {P : Params} : PySem.W.KeysLit P [] := trivial
theorem kl_cons {P : Params} {e : DictEntry} {r : List DictEntry} {x t} (h1 : e.key = .str x t) (h2 : e.hash = PyData.keyHash P x) (hr : PySem.W.KeysLit P r) : PySem.W.KeysLit P (e :: r) := ⟨⟨x, t, h1, h2⟩, hr⟩
theorem exm_self {K : PySem.W.Frag} {S : Addr} (h1 : PySem.W.subIn K (.ref S) (.type "BaseException") = some true) (h2 : PySem.W.isClsIn K S = true) (h3 : PySem.W.typeIn K (.ref S) = some (.type "type")) (h4 : PySem.W.subIn K (.ref S) (.ref S) = some true) : PySem.W.exmOne K (.ref S) (.ref S) = some true := by
  have e1 : (PySem.W.subIn K (.ref S) (.type "BaseException") == some true) = true := by rw [h1] <;> rfl
  have e2 : ((PySem.W.clsIn K S).isSome && PySem.W.typeIn K (.ref S) == some (.type "type")) = true := by
    have h2' : (PySem.W.clsIn K S).isSome = true := h2
    rw [h2', h3] <;> rfl
  show (if (PySem.W.subIn K (.ref S) (.type "BaseException") == some true) = true then (if ((PySem.W.clsIn K S).isSome && PySem.W.typeIn K (.ref S) == some (.type "type")) = true then PySem.W.subIn K (.ref S) (.ref S) else none) else none) = some true
  rw [if_pos e1, if_pos e2]
  exact h4
theorem all_mk {l : PySem.W.OpenLaw} {w : World} {K : PySem.W.Frag} {h : Heap} {mg : Str → Option Value} {fa : Addr} (X : K.In h) (G : h.Ns mainGlobals mg) (hfa : mg "law" = some (.ref fa))
  {f0 : Addr} {od0 an0 : Option Addr} {sl0 : Array (Option Value)} {oc0 kV0 dc0 pm0 cd0 ct0 : Value}
  {f1 : Addr} {od1 an1 : Option Addr} {sl1 : Array (Option Value)} {oc1 kV1 dc1 pm1 cd1 ct1 : Value}
  {f2 : Addr} {od2 an2 : Option Addr} {sl2 : Array (Option Value)} {oc2 kV2 dc2 pm2 cd2 ct2 : Value}
  {f3 : Addr} {od3 an3 : Option Addr} {sl3 : Array (Option Value)} {oc3 kV3 dc3 pm3 cd3 ct3 : Value}
  {f4 : Addr} {od4 an4 : Option Addr} {sl4 : Array (Option Value)} {oc4 kV4 dc4 pm4 cd4 ct4 : Value}
  {f5 : Addr} {od5 an5 : Option Addr} {sl5 : Array (Option Value)} {oc5 kV5 dc5 pm5 cd5 ct5 : Value}
  {f6 : Addr} {od6 an6 : Option Addr} {sl6 : Array (Option Value)} {oc6 kV6 dc6 pm6 cd6 ct6 : Value}
  {f7 : Addr} {od7 an7 : Option Addr} {sl7 : Array (Option Value)} {oc7 kV7 dc7 pm7 cd7 ct7 : Value}
  {f8 : Addr} {od8 an8 : Option Addr} {sl8 : Array (Option Value)} {oc8 kV8 dc8 pm8 cd8 ct8 : Value}
  {f9 : Addr} {od9 an9 : Option Addr} {sl9 : Array (Option Value)} {oc9 kV9 dc9 pm9 cd9 ct9 : Value}
  {f10 : Addr} {od10 an10 : Option Addr} {sl10 : Array (Option Value)} {oc10 kV10 dc10 pm10 cd10 ct10 : Value}
  {f11 : Addr} {od11 an11 : Option Addr} {sl11 : Array (Option Value)} {oc11 kV11 dc11 pm11 cd11 ct11 : Value}
  {f12 : Addr} {od12 an12 : Option Addr} {sl12 : Array (Option Value)} {oc12 kV12 dc12 pm12 cd12 ct12 : Value}
  {f13 : Addr} {od13 an13 : Option Addr} {sl13 : Array (Option Value)} {oc13 kV13 dc13 pm13 cd13 ct13 : Value}
  {f14 : Addr} {od14 an14 : Option Addr} {sl14 : Array (Option Value)} {oc14 kV14 dc14 pm14 cd14 ct14 : Value}
  {f15 : Addr} {od15 an15 : Option Addr} {sl15 : Array (Option Value)} {oc15 kV15 dc15 pm15 cd15 ct15 : Value}
  {f16 : Addr} {od16 an16 : Option Addr} {sl16 : Array (Option Value)} {oc16 kV16 dc16 pm16 cd16 ct16 : Value}
  {f17 : Addr} {od17 an17 : Option Addr} {sl17 : Array (Option Value)} {oc17 kV17 dc17 pm17 cd17 ct17 : Value}
  {f18 : Addr} {od18 an18 : Option Addr} {sl18 : Array (Option Value)} {oc18 kV18 dc18 pm18 cd18 ct18 : Value}
  {f19 : Addr} {od19 an19 : Option Addr} {sl19 : Array (Option Value)} {oc19 kV19 dc19 pm19 cd19 ct19 : Value}
  {f20 : Addr} {od20 an20 : Option Addr} {sl20 : Array (Option Value)} {oc20 kV20 dc20 pm20 cd20 ct20 : Value}
  {f21 : Addr} {od21 an21 : Option Addr} {sl21 : Array (Option Value)} {oc21 kV21 dc21 pm21 cd21 ct21 : Value}
  {f22 : Addr} {od22 an22 : Option Addr} {sl22 : Array (Option Value)} {oc22 kV22 dc22 pm22 cd22 ct22 : Value}
  {f23 : Addr} {od23 an23 : Option Addr} {sl23 : Array (Option Value)} {oc23 kV23 dc23 pm23 cd23 ct23 : Value}
  {f24 : Addr} {od24 an24 : Option Addr} {sl24 : Array (Option Value)} {oc24 kV24 dc24 pm24 cd24 ct24 : Value}
  {f25 : Addr} {od25 an25 : Option Addr} {sl25 : Array (Option Value)} {oc25 kV25 dc25 pm25 cd25 ct25 : Value}
  {f26 : Addr} {od26 an26 : Option Addr} {sl26 : Array (Option Value)} {oc26 kV26 dc26 pm26 cd26 ct26 : Value}
  {f27 : Addr} {od27 an27 : Option Addr} {sl27 : Array (Option Value)} {oc27 kV27 dc27 pm27 cd27 ct27 : Value}
  {f28 : Addr} {od28 an28 : Option Addr} {sl28 : Array (Option Value)} {oc28 kV28 dc28 pm28 cd28 ct28 : Value}
  {f29 : Addr} {od29 an29 : Option Addr} {sl29 : Array (Option Value)} {oc29 kV29 dc29 pm29 cd29 ct29 : Value}
  {f30 : Addr} {od30 an30 : Option Addr} {sl30 : Array (Option Value)} {oc30 kV30 dc30 pm30 cd30 ct30 : Value}
  {f31 : Addr} {od31 an31 : Option Addr} {sl31 : Array (Option Value)} {oc31 kV31 dc31 pm31 cd31 ct31 : Value}
  {f32 : Addr} {od32 an32 : Option Addr} {sl32 : Array (Option Value)} {oc32 kV32 dc32 pm32 cd32 ct32 : Value}
  {f33 : Addr} {od33 an33 : Option Addr} {sl33 : Array (Option Value)} {oc33 kV33 dc33 pm33 cd33 ct33 : Value}
  {f34 : Addr} {od34 an34 : Option Addr} {sl34 : Array (Option Value)} {oc34 kV34 dc34 pm34 cd34 ct34 : Value}
  {f35 : Addr} {od35 an35 : Option Addr} {sl35 : Array (Option Value)} {oc35 kV35 dc35 pm35 cd35 ct35 : Value}
  {f36 : Addr} {od36 an36 : Option Addr} {sl36 : Array (Option Value)} {oc36 kV36 dc36 pm36 cd36 ct36 : Value}
  {f37 : Addr} {od37 an37 : Option Addr} {sl37 : Array (Option Value)} {oc37 kV37 dc37 pm37 cd37 ct37 : Value}
  {f38 : Addr} {od38 an38 : Option Addr} {sl38 : Array (Option Value)} {oc38 kV38 dc38 pm38 cd38 ct38 : Value}
  {f39 : Addr} {od39 an39 : Option Addr} {sl39 : Array (Option Value)} {oc39 kV39 dc39 pm39 cd39 ct39 : Value}
  {f40 : Addr} {od40 an40 : Option Addr} {sl40 : Array (Option Value)} {oc40 kV40 dc40 pm40 cd40 ct40 : Value}
  {f41 : Addr} {od41 an41 : Option Addr} {sl41 : Array (Option Value)} {oc41 kV41 dc41 pm41 cd41 ct41 : Value}
  {f42 : Addr} {od42 an42 : Option Addr} {sl42 : Array (Option Value)} {oc42 kV42 dc42 pm42 cd42 ct42 : Value}
  {f43 : Addr} {od43 an43 : Option Addr} {sl43 : Array (Option Value)} {oc43 kV43 dc43 pm43 cd43 ct43 : Value}
  {f44 : Addr} {od44 an44 : Option Addr} {sl44 : Array (Option Value)} {oc44 kV44 dc44 pm44 cd44 ct44 : Value}
  {C TL dF dB aSt aOt aMm : Addr}
  {f45 : Addr} {od45 an45 : Option Addr} {sl45 : Array (Option Value)} {oc45 kV45 dc45 pm45 cd45 ct45 : Value}
  {f46 : Addr} {od46 an46 : Option Addr} {sl46 : Array (Option Value)} {oc46 kV46 dc46 pm46 cd46 ct46 : Value}
  {f47 : Addr} {od47 an47 : Option Addr} {sl47 : Array (Option Value)} {oc47 kV47 dc47 pm47 cd47 ct47 : Value}
  {f48 : Addr} {od48 an48 : Option Addr} {sl48 : Array (Option Value)} {oc48 kV48 dc48 pm48 cd48 ct48 : Value}
  {f49 : Addr} {od49 an49 : Option Addr} {sl49 : Array (Option Value)} {oc49 kV49 dc49 pm49 cd49 ct49 : Value}
  {f50 : Addr} {od50 an50 : Option Addr} {sl50 : Array (Option Value)} {oc50 kV50 dc50 pm50 cd50 ct50 : Value}
  {f51 : Addr} {od51 an51 : Option Addr} {sl51 : Array (Option Value)} {oc51 kV51 dc51 pm51 cd51 ct51 : Value}
  {f52 : Addr} {od52 an52 : Option Addr} {sl52 : Array (Option Value)} {oc52 kV52 dc52 pm52 cd52 ct52 : Value}
  {f53 : Addr} {od53 an53 : Option Addr} {sl53 : Array (Option Value)} {oc53 kV53 dc53 pm53 cd53 ct53 : Value}
  {f54 : Addr} {od54 an54 : Option Addr} {sl54 : Array (Option Value)} {oc54 kV54 dc54 pm54 cd54 ct54 : Value}
  {f55 : Addr} {od55 an55 : Option Addr} {sl55 : Array (Option Value)} {oc55 kV55 dc55 pm55 cd55 ct55 : Value}
  {t_MOST_WORD : _}
  {t_MANY_BOXES : _}
  {t_MANY_TABLES : _}
  {t_MANY_CELLS : _}
  {t_MOST_STEPS : _}
  {t_MOST_DEEP : _}
  {t_MOST_HIDDEN : _}
  {t_MOST_EVENTS : _}
  {t_ROOM : _}
  {t_AN_ARM : _}
  {t_READ_BOX : _}
  {es_dF : Array DictEntry} {n_dF : Nat}
  {es_dB : Array DictEntry} {n_dB : Nat}
  {tf0 : _}
  {tf1 : _}
  {tf2 : _}
  {tf3 : _}
  {tf4 : _}
  {tf5 : _}
  {tf6 : _}
  {tf7 : _}
  {tf8 : _}
  {tf9 : _}
  {tf10 : _}
  {tf11 : _}
  {tf12 : _}
  {tf13 : _}
  {tf14 : _}
  {tf15 : _}
  {tf16 : _}
  {tf17 : _}
  {ab0 : Addr}
  {dd_b0 : Option Addr} {nn_b0 : Nat} {ss_b0 : Array (Option Value)}
  {tt_b0_0 : _}
  {tt_b0_1 : _}
  {ab1 : Addr}
  {dd_b1 : Option Addr} {nn_b1 : Nat} {ss_b1 : Array (Option Value)}
  {tt_b1_0 : _}
  {tt_b1_1 : _}
  {ab2 : Addr}
  {dd_b2 : Option Addr} {nn_b2 : Nat} {ss_b2 : Array (Option Value)}
  {tt_b2_0 : _}
  {tt_b2_1 : _}
  {ab3 : Addr}
  {dd_b3 : Option Addr} {nn_b3 : Nat} {ss_b3 : Array (Option Value)}
  {tt_b3_0 : _}
  {tt_b3_1 : _}
  {ab4 : Addr}
  {dd_b4 : Option Addr} {nn_b4 : Nat} {ss_b4 : Array (Option Value)}
  {tt_b4_0 : _}
  {tt_b4_1 : _}
  {ab5 : Addr}
  {dd_b5 : Option Addr} {nn_b5 : Nat} {ss_b5 : Array (Option Value)}
  {tt_b5_0 : _}
  {tt_b5_1 : _}
  {dd_st : Option Addr} {nn_st : Nat} {ss_st : Array (Option Value)}
  {tt_st_0 : _}
  {tt_st_1 : _}
  {tt_st_2 : _}
  {tt_st_3 : _}
  {tt_st_4 : _}
  {dd_ot : Option Addr} {nn_ot : Nat} {ss_ot : Array (Option Value)}
  {tt_ot_0 : _}
  {tt_ot_1 : _}
  {tt_ot_2 : _}
  {dd_mm : Option Addr} {nn_mm : Nat} {ss_mm : Array (Option Value)}
  {tt_mm_0 : _}
  {tt_mm_1 : _}
  {tt_mm_2 : _}
  {tt_mm_3 : _}
  {tt_mm_4 : _}
  (a0 : PySem.W.nsIn K mainGlobals "is_among" = some (some (.ref f0)))
  (l0 : K.lookup f0 = some ⟨oc0, od0, .func (PySem.W.fnOf "is_among" "is_among" (defArgs s_is_among) (defBody s_is_among) (defScope s_is_among) .none kV0 dc0 pm0 an0 cd0 ct0), sl0⟩)
  (c0 : PySem.W.codeIn K cd0 "is_among" = true)
  (k0 : PySem.W.keepIn K (.ref f0) = true)
  (a1 : PySem.W.nsIn K mainGlobals "is_word" = some (some (.ref f1)))
  (l1 : K.lookup f1 = some ⟨oc1, od1, .func (PySem.W.fnOf "is_word" "is_word" (defArgs s_is_word) (defBody s_is_word) (defScope s_is_word) .none kV1 dc1 pm1 an1 cd1 ct1), sl1⟩)
  (c1 : PySem.W.codeIn K cd1 "is_word" = true)
  (k1 : PySem.W.keepIn K (.ref f1) = true)
  (a2 : PySem.W.nsIn K mainGlobals "is_part" = some (some (.ref f2)))
  (l2 : K.lookup f2 = some ⟨oc2, od2, .func (PySem.W.fnOf "is_part" "is_part" (defArgs s_is_part) (defBody s_is_part) (defScope s_is_part) .none kV2 dc2 pm2 an2 cd2 ct2), sl2⟩)
  (c2 : PySem.W.codeIn K cd2 "is_part" = true)
  (k2 : PySem.W.keepIn K (.ref f2) = true)
  (a3 : PySem.W.nsIn K mainGlobals "has_form" = some (some (.ref f3)))
  (l3 : K.lookup f3 = some ⟨oc3, od3, .func (PySem.W.fnOf "has_form" "has_form" (defArgs s_has_form) (defBody s_has_form) (defScope s_has_form) .none kV3 dc3 pm3 an3 cd3 ct3), sl3⟩)
  (c3 : PySem.W.codeIn K cd3 "has_form" = true)
  (k3 : PySem.W.keepIn K (.ref f3) = true)
  (a4 : PySem.W.nsIn K mainGlobals "parts_of" = some (some (.ref f4)))
  (l4 : K.lookup f4 = some ⟨oc4, od4, .func (PySem.W.fnOf "parts_of" "parts_of" (defArgs s_parts_of) (defBody s_parts_of) (defScope s_parts_of) .none kV4 dc4 pm4 an4 cd4 ct4), sl4⟩)
  (c4 : PySem.W.codeIn K cd4 "parts_of" = true)
  (k4 : PySem.W.keepIn K (.ref f4) = true)
  (a5 : PySem.W.nsIn K mainGlobals "arms_of" = some (some (.ref f5)))
  (l5 : K.lookup f5 = some ⟨oc5, od5, .func (PySem.W.fnOf "arms_of" "arms_of" (defArgs s_arms_of) (defBody s_arms_of) (defScope s_arms_of) .none kV5 dc5 pm5 an5 cd5 ct5), sl5⟩)
  (c5 : PySem.W.codeIn K cd5 "arms_of" = true)
  (k5 : PySem.W.keepIn K (.ref f5) = true)
  (a6 : PySem.W.nsIn K mainGlobals "reads" = some (some (.ref f6)))
  (l6 : K.lookup f6 = some ⟨oc6, od6, .func (PySem.W.fnOf "reads" "reads" (defArgs s_reads) (defBody s_reads) (defScope s_reads) .none kV6 dc6 pm6 an6 cd6 ct6), sl6⟩)
  (c6 : PySem.W.codeIn K cd6 "reads" = true)
  (k6 : PySem.W.keepIn K (.ref f6) = true)
  (a7 : PySem.W.nsIn K mainGlobals "with_paths" = some (some (.ref f7)))
  (l7 : K.lookup f7 = some ⟨oc7, od7, .func (PySem.W.fnOf "with_paths" "with_paths" (defArgs s_with_paths) (defBody s_with_paths) (defScope s_with_paths) .none kV7 dc7 pm7 an7 cd7 ct7), sl7⟩)
  (c7 : PySem.W.codeIn K cd7 "with_paths" = true)
  (k7 : PySem.W.keepIn K (.ref f7) = true)
  (a8 : PySem.W.nsIn K mainGlobals "need_program" = some (some (.ref f8)))
  (l8 : K.lookup f8 = some ⟨oc8, od8, .func (PySem.W.fnOf "need_program" "need_program" (defArgs s_need_program) (defBody s_need_program) (defScope s_need_program) .none kV8 dc8 pm8 an8 cd8 ct8), sl8⟩)
  (c8 : PySem.W.codeIn K cd8 "need_program" = true)
  (k8 : PySem.W.keepIn K (.ref f8) = true)
  (a9 : PySem.W.nsIn K mainGlobals "are_words" = some (some (.ref f9)))
  (l9 : K.lookup f9 = some ⟨oc9, od9, .func (PySem.W.fnOf "are_words" "are_words" (defArgs s_are_words) (defBody s_are_words) (defScope s_are_words) .none kV9 dc9 pm9 an9 cd9 ct9), sl9⟩)
  (c9 : PySem.W.codeIn K cd9 "are_words" = true)
  (k9 : PySem.W.keepIn K (.ref f9) = true)
  (a10 : PySem.W.nsIn K mainGlobals "is_world" = some (some (.ref f10)))
  (l10 : K.lookup f10 = some ⟨oc10, od10, .func (PySem.W.fnOf "is_world" "is_world" (defArgs s_is_world) (defBody s_is_world) (defScope s_is_world) .none kV10 dc10 pm10 an10 cd10 ct10), sl10⟩)
  (c10 : PySem.W.codeIn K cd10 "is_world" = true)
  (k10 : PySem.W.keepIn K (.ref f10) = true)
  (a11 : PySem.W.nsIn K mainGlobals "need_world" = some (some (.ref f11)))
  (l11 : K.lookup f11 = some ⟨oc11, od11, .func (PySem.W.fnOf "need_world" "need_world" (defArgs s_need_world) (defBody s_need_world) (defScope s_need_world) .none kV11 dc11 pm11 an11 cd11 ct11), sl11⟩)
  (c11 : PySem.W.codeIn K cd11 "need_world" = true)
  (k11 : PySem.W.keepIn K (.ref f11) = true)
  (a12 : PySem.W.nsIn K mainGlobals "is_rising" = some (some (.ref f12)))
  (l12 : K.lookup f12 = some ⟨oc12, od12, .func (PySem.W.fnOf "is_rising" "is_rising" (defArgs s_is_rising) (defBody s_is_rising) (defScope s_is_rising) .none kV12 dc12 pm12 an12 cd12 ct12), sl12⟩)
  (c12 : PySem.W.codeIn K cd12 "is_rising" = true)
  (k12 : PySem.W.keepIn K (.ref f12) = true)
  (a13 : PySem.W.nsIn K mainGlobals "is_hidden" = some (some (.ref f13)))
  (l13 : K.lookup f13 = some ⟨oc13, od13, .func (PySem.W.fnOf "is_hidden" "is_hidden" (defArgs s_is_hidden) (defBody s_is_hidden) (defScope s_is_hidden) .none kV13 dc13 pm13 an13 cd13 ct13), sl13⟩)
  (c13 : PySem.W.codeIn K cd13 "is_hidden" = true)
  (k13 : PySem.W.keepIn K (.ref f13) = true)
  (a14 : PySem.W.nsIn K mainGlobals "need_hidden" = some (some (.ref f14)))
  (l14 : K.lookup f14 = some ⟨oc14, od14, .func (PySem.W.fnOf "need_hidden" "need_hidden" (defArgs s_need_hidden) (defBody s_need_hidden) (defScope s_need_hidden) .none kV14 dc14 pm14 an14 cd14 ct14), sl14⟩)
  (c14 : PySem.W.codeIn K cd14 "need_hidden" = true)
  (k14 : PySem.W.keepIn K (.ref f14) = true)
  (a15 : PySem.W.nsIn K mainGlobals "is_make" = some (some (.ref f15)))
  (l15 : K.lookup f15 = some ⟨oc15, od15, .func (PySem.W.fnOf "is_make" "is_make" (defArgs s_is_make) (defBody s_is_make) (defScope s_is_make) .none kV15 dc15 pm15 an15 cd15 ct15), sl15⟩)
  (c15 : PySem.W.codeIn K cd15 "is_make" = true)
  (k15 : PySem.W.keepIn K (.ref f15) = true)
  (a16 : PySem.W.nsIn K mainGlobals "need_make" = some (some (.ref f16)))
  (l16 : K.lookup f16 = some ⟨oc16, od16, .func (PySem.W.fnOf "need_make" "need_make" (defArgs s_need_make) (defBody s_need_make) (defScope s_need_make) .none kV16 dc16 pm16 an16 cd16 ct16), sl16⟩)
  (c16 : PySem.W.codeIn K cd16 "need_make" = true)
  (k16 : PySem.W.keepIn K (.ref f16) = true)
  (a17 : PySem.W.nsIn K mainGlobals "worlds_of" = some (some (.ref f17)))
  (l17 : K.lookup f17 = some ⟨oc17, od17, .func (PySem.W.fnOf "worlds_of" "worlds_of" (defArgs s_worlds_of) (defBody s_worlds_of) (defScope s_worlds_of) .none kV17 dc17 pm17 an17 cd17 ct17), sl17⟩)
  (c17 : PySem.W.codeIn K cd17 "worlds_of" = true)
  (k17 : PySem.W.keepIn K (.ref f17) = true)
  (a18 : PySem.W.nsIn K mainGlobals "deed_told" = some (some (.ref f18)))
  (l18 : K.lookup f18 = some ⟨oc18, od18, .func (PySem.W.fnOf "deed_told" "deed_told" (defArgs s_deed_told) (defBody s_deed_told) (defScope s_deed_told) .none kV18 dc18 pm18 an18 cd18 ct18), sl18⟩)
  (c18 : PySem.W.codeIn K cd18 "deed_told" = true)
  (k18 : PySem.W.keepIn K (.ref f18) = true)
  (a19 : PySem.W.nsIn K mainGlobals "need_run" = some (some (.ref f19)))
  (l19 : K.lookup f19 = some ⟨oc19, od19, .func (PySem.W.fnOf "need_run" "need_run" (defArgs s_need_run) (defBody s_need_run) (defScope s_need_run) .none kV19 dc19 pm19 an19 cd19 ct19), sl19⟩)
  (c19 : PySem.W.codeIn K cd19 "need_run" = true)
  (k19 : PySem.W.keepIn K (.ref f19) = true)
  (a20 : PySem.W.nsIn K mainGlobals "gone" = some (some (.ref f20)))
  (l20 : K.lookup f20 = some ⟨oc20, od20, .func (PySem.W.fnOf "gone" "gone" (defArgs s_gone) (defBody s_gone) (defScope s_gone) .none kV20 dc20 pm20 an20 cd20 ct20), sl20⟩)
  (c20 : PySem.W.codeIn K cd20 "gone" = true)
  (k20 : PySem.W.keepIn K (.ref f20) = true)
  (a21 : PySem.W.nsIn K mainGlobals "run" = some (some (.ref f21)))
  (l21 : K.lookup f21 = some ⟨oc21, od21, .func (PySem.W.fnOf "run" "run" (defArgs s_run) (defBody s_run) (defScope s_run) .none kV21 dc21 pm21 an21 cd21 ct21), sl21⟩)
  (c21 : PySem.W.codeIn K cd21 "run" = true)
  (k21 : PySem.W.keepIn K (.ref f21) = true)
  (a22 : PySem.W.nsIn K mainGlobals "events" = some (some (.ref f22)))
  (l22 : K.lookup f22 = some ⟨oc22, od22, .func (PySem.W.fnOf "events" "events" (defArgs s_events) (defBody s_events) (defScope s_events) .none kV22 dc22 pm22 an22 cd22 ct22), sl22⟩)
  (c22 : PySem.W.codeIn K cd22 "events" = true)
  (k22 : PySem.W.keepIn K (.ref f22) = true)
  (a23 : PySem.W.nsIn K mainGlobals "seen_of" = some (some (.ref f23)))
  (l23 : K.lookup f23 = some ⟨oc23, od23, .func (PySem.W.fnOf "seen_of" "seen_of" (defArgs s_seen_of) (defBody s_seen_of) (defScope s_seen_of) .none kV23 dc23 pm23 an23 cd23 ct23), sl23⟩)
  (c23 : PySem.W.codeIn K cd23 "seen_of" = true)
  (k23 : PySem.W.keepIn K (.ref f23) = true)
  (a24 : PySem.W.nsIn K mainGlobals "two_gone" = some (some (.ref f24)))
  (l24 : K.lookup f24 = some ⟨oc24, od24, .func (PySem.W.fnOf "two_gone" "two_gone" (defArgs s_two_gone) (defBody s_two_gone) (defScope s_two_gone) .none kV24 dc24 pm24 an24 cd24 ct24), sl24⟩)
  (c24 : PySem.W.codeIn K cd24 "two_gone" = true)
  (k24 : PySem.W.keepIn K (.ref f24) = true)
  (a25 : PySem.W.nsIn K mainGlobals "seen_alike" = some (some (.ref f25)))
  (l25 : K.lookup f25 = some ⟨oc25, od25, .func (PySem.W.fnOf "seen_alike" "seen_alike" (defArgs s_seen_alike) (defBody s_seen_alike) (defScope s_seen_alike) .none kV25 dc25 pm25 an25 cd25 ct25), sl25⟩)
  (c25 : PySem.W.codeIn K cd25 "seen_alike" = true)
  (k25 : PySem.W.keepIn K (.ref f25) = true)
  (a26 : PySem.W.nsIn K mainGlobals "beat_parted" = some (some (.ref f26)))
  (l26 : K.lookup f26 = some ⟨oc26, od26, .func (PySem.W.fnOf "beat_parted" "beat_parted" (defArgs s_beat_parted) (defBody s_beat_parted) (defScope s_beat_parted) .none kV26 dc26 pm26 an26 cd26 ct26), sl26⟩)
  (c26 : PySem.W.codeIn K cd26 "beat_parted" = true)
  (k26 : PySem.W.keepIn K (.ref f26) = true)
  (a27 : PySem.W.nsIn K mainGlobals "path_at" = some (some (.ref f27)))
  (l27 : K.lookup f27 = some ⟨oc27, od27, .func (PySem.W.fnOf "path_at" "path_at" (defArgs s_path_at) (defBody s_path_at) (defScope s_path_at) .none kV27 dc27 pm27 an27 cd27 ct27), sl27⟩)
  (c27 : PySem.W.codeIn K cd27 "path_at" = true)
  (k27 : PySem.W.keepIn K (.ref f27) = true)
  (a28 : PySem.W.nsIn K mainGlobals "parted" = some (some (.ref f28)))
  (l28 : K.lookup f28 = some ⟨oc28, od28, .func (PySem.W.fnOf "parted" "parted" (defArgs s_parted) (defBody s_parted) (defScope s_parted) .none kV28 dc28 pm28 an28 cd28 ct28), sl28⟩)
  (c28 : PySem.W.codeIn K cd28 "parted" = true)
  (k28 : PySem.W.keepIn K (.ref f28) = true)
  (a29 : PySem.W.nsIn K mainGlobals "uneven" = some (some (.ref f29)))
  (l29 : K.lookup f29 = some ⟨oc29, od29, .func (PySem.W.fnOf "uneven" "uneven" (defArgs s_uneven) (defBody s_uneven) (defScope s_uneven) .none kV29 dc29 pm29 an29 cd29 ct29), sl29⟩)
  (c29 : PySem.W.codeIn K cd29 "uneven" = true)
  (k29 : PySem.W.keepIn K (.ref f29) = true)
  (a30 : PySem.W.nsIn K mainGlobals "_law_cell" = some (some (.ref f30)))
  (l30 : K.lookup f30 = some ⟨oc30, od30, .func (PySem.W.fnOf "_law_cell" "_law_cell" (defArgs s_law_cell) (defBody s_law_cell) (defScope s_law_cell) .none kV30 dc30 pm30 an30 cd30 ct30), sl30⟩)
  (c30 : PySem.W.codeIn K cd30 "_law_cell" = true)
  (k30 : PySem.W.keepIn K (.ref f30) = true)
  (a31 : PySem.W.nsIn K mainGlobals "_law_step" = some (some (.ref f31)))
  (l31 : K.lookup f31 = some ⟨oc31, od31, .func (PySem.W.fnOf "_law_step" "_law_step" (defArgs s_law_step) (defBody s_law_step) (defScope s_law_step) .none kV31 dc31 pm31 an31 cd31 ct31), sl31⟩)
  (c31 : PySem.W.codeIn K cd31 "_law_step" = true)
  (k31 : PySem.W.keepIn K (.ref f31) = true)
  (a32 : PySem.W.nsIn K mainGlobals "_law_steps" = some (some (.ref f32)))
  (l32 : K.lookup f32 = some ⟨oc32, od32, .func (PySem.W.fnOf "_law_steps" "_law_steps" (defArgs s_law_steps) (defBody s_law_steps) (defScope s_law_steps) .none kV32 dc32 pm32 an32 cd32 ct32), sl32⟩)
  (c32 : PySem.W.codeIn K cd32 "_law_steps" = true)
  (k32 : PySem.W.keepIn K (.ref f32) = true)
  (a33 : PySem.W.nsIn K mainGlobals "_law_menu" = some (some (.ref f33)))
  (l33 : K.lookup f33 = some ⟨oc33, od33, .func (PySem.W.fnOf "_law_menu" "_law_menu" (defArgs s_law_menu) (defBody s_law_menu) (defScope s_law_menu) .none kV33 dc33 pm33 an33 cd33 ct33), sl33⟩)
  (c33 : PySem.W.codeIn K cd33 "_law_menu" = true)
  (k33 : PySem.W.keepIn K (.ref f33) = true)
  (a34 : PySem.W.nsIn K mainGlobals "_law_program" = some (some (.ref f34)))
  (l34 : K.lookup f34 = some ⟨oc34, od34, .func (PySem.W.fnOf "_law_program" "_law_program" (defArgs s_law_program) (defBody s_law_program) (defScope s_law_program) .none kV34 dc34 pm34 an34 cd34 ct34), sl34⟩)
  (c34 : PySem.W.codeIn K cd34 "_law_program" = true)
  (k34 : PySem.W.keepIn K (.ref f34) = true)
  (a35 : PySem.W.nsIn K mainGlobals "_law_world" = some (some (.ref f35)))
  (l35 : K.lookup f35 = some ⟨oc35, od35, .func (PySem.W.fnOf "_law_world" "_law_world" (defArgs s_law_world) (defBody s_law_world) (defScope s_law_world) .none kV35 dc35 pm35 an35 cd35 ct35), sl35⟩)
  (c35 : PySem.W.codeIn K cd35 "_law_world" = true)
  (k35 : PySem.W.keepIn K (.ref f35) = true)
  (a36 : PySem.W.nsIn K mainGlobals "_law_make" = some (some (.ref f36)))
  (l36 : K.lookup f36 = some ⟨oc36, od36, .func (PySem.W.fnOf "_law_make" "_law_make" (defArgs s_law_make) (defBody s_law_make) (defScope s_law_make) .none kV36 dc36 pm36 an36 cd36 ct36), sl36⟩)
  (c36 : PySem.W.codeIn K cd36 "_law_make" = true)
  (k36 : PySem.W.keepIn K (.ref f36) = true)
  (a37 : PySem.W.nsIn K mainGlobals "_law_fits" = some (some (.ref f37)))
  (l37 : K.lookup f37 = some ⟨oc37, od37, .func (PySem.W.fnOf "_law_fits" "_law_fits" (defArgs s_law_fits) (defBody s_law_fits) (defScope s_law_fits) .none kV37 dc37 pm37 an37 cd37 ct37), sl37⟩)
  (c37 : PySem.W.codeIn K cd37 "_law_fits" = true)
  (k37 : PySem.W.keepIn K (.ref f37) = true)
  (a38 : PySem.W.nsIn K mainGlobals "_law_at" = some (some (.ref f38)))
  (l38 : K.lookup f38 = some ⟨oc38, od38, .func (PySem.W.fnOf "_law_at" "_law_at" (defArgs s_law_at) (defBody s_law_at) (defScope s_law_at) .none kV38 dc38 pm38 an38 cd38 ct38), sl38⟩)
  (c38 : PySem.W.codeIn K cd38 "_law_at" = true)
  (k38 : PySem.W.keepIn K (.ref f38) = true)
  (a39 : PySem.W.nsIn K mainGlobals "_law_beats_fit" = some (some (.ref f39)))
  (l39 : K.lookup f39 = some ⟨oc39, od39, .func (PySem.W.fnOf "_law_beats_fit" "_law_beats_fit" (defArgs s_law_beats_fit) (defBody s_law_beats_fit) (defScope s_law_beats_fit) .none kV39 dc39 pm39 an39 cd39 ct39), sl39⟩)
  (c39 : PySem.W.codeIn K cd39 "_law_beats_fit" = true)
  (k39 : PySem.W.keepIn K (.ref f39) = true)
  (a40 : PySem.W.nsIn K mainGlobals "_law_events_right" = some (some (.ref f40)))
  (l40 : K.lookup f40 = some ⟨oc40, od40, .func (PySem.W.fnOf "_law_events_right" "_law_events_right" (defArgs s_law_events_right) (defBody s_law_events_right) (defScope s_law_events_right) .none kV40 dc40 pm40 an40 cd40 ct40), sl40⟩)
  (c40 : PySem.W.codeIn K cd40 "_law_events_right" = true)
  (k40 : PySem.W.keepIn K (.ref f40) = true)
  (a41 : PySem.W.nsIn K mainGlobals "_law_put_right" = some (some (.ref f41)))
  (l41 : K.lookup f41 = some ⟨oc41, od41, .func (PySem.W.fnOf "_law_put_right" "_law_put_right" (defArgs s_law_put_right) (defBody s_law_put_right) (defScope s_law_put_right) .none kV41 dc41 pm41 an41 cd41 ct41), sl41⟩)
  (c41 : PySem.W.codeIn K cd41 "_law_put_right" = true)
  (k41 : PySem.W.keepIn K (.ref f41) = true)
  (a42 : PySem.W.nsIn K mainGlobals "_law_two_right" = some (some (.ref f42)))
  (l42 : K.lookup f42 = some ⟨oc42, od42, .func (PySem.W.fnOf "_law_two_right" "_law_two_right" (defArgs s_law_two_right) (defBody s_law_two_right) (defScope s_law_two_right) .none kV42 dc42 pm42 an42 cd42 ct42), sl42⟩)
  (c42 : PySem.W.codeIn K cd42 "_law_two_right" = true)
  (k42 : PySem.W.keepIn K (.ref f42) = true)
  (a43 : PySem.W.nsIn K mainGlobals "_law_uneven_right" = some (some (.ref f43)))
  (l43 : K.lookup f43 = some ⟨oc43, od43, .func (PySem.W.fnOf "_law_uneven_right" "_law_uneven_right" (defArgs s_law_uneven_right) (defBody s_law_uneven_right) (defScope s_law_uneven_right) .none kV43 dc43 pm43 an43 cd43 ct43), sl43⟩)
  (c43 : PySem.W.codeIn K cd43 "_law_uneven_right" = true)
  (k43 : PySem.W.keepIn K (.ref f43) = true)
  (a44 : PySem.W.nsIn K mainGlobals "law" = some (some (.ref f44)))
  (l44 : K.lookup f44 = some ⟨oc44, od44, .func (PySem.W.fnOf "law" "law" (defArgs s_law) (defBody s_law) (defScope s_law) .none kV44 dc44 pm44 an44 cd44 ct44), sl44⟩)
  (c44 : PySem.W.codeIn K cd44 "law" = true)
  (k44 : PySem.W.keepIn K (.ref f44) = true)
  (aC : PySem.W.nsIn K mainGlobals "Going" = some (some (.ref C)))
  (pg : PySem.W.plainGet K C Str.empty = true)
  (hd : PySem.W.hasDictIn K C = true)
  (po : PySem.W.plainOver K C = true)
  (sa : PySem.W.findIn K (.ref C) "__setattr__" = some (some (.builtin "object.__setattr__")))
  (mk : PySem.W.makesIn K C = true)
  (kc : PySem.W.keepIn K (.ref C) = true)
  (na_nearness : PySem.W.findIn K (.ref C) "nearness" = some none)
  (na_far : PySem.W.findIn K (.ref C) "far" = some none)
  (na_wrong : PySem.W.findIn K (.ref C) "wrong" = some none)
  (na_width : PySem.W.findIn K (.ref C) "width" = some none)
  (na_long : PySem.W.findIn K (.ref C) "long" = some none)
  (na_boxes : PySem.W.findIn K (.ref C) "boxes" = some none)
  (na_tables : PySem.W.findIn K (.ref C) "tables" = some none)
  (na_said : PySem.W.findIn K (.ref C) "said" = some none)
  (na_beats : PySem.W.findIn K (.ref C) "beats" = some none)
  (na_touches : PySem.W.findIn K (.ref C) "touches" = some none)
  (na_nearest : PySem.W.findIn K (.ref C) "nearest" = some none)
  (na_went : PySem.W.findIn K (.ref C) "went" = some none)
  (na_met : PySem.W.findIn K (.ref C) "met" = some none)
  (a45 : PySem.W.findIn K (.ref C) "cell_told" = some (some (.ref f45)))
  (i45 : PySem.W.isFn K (.ref f45) = true)
  (l45 : K.lookup f45 = some ⟨oc45, od45, .func (PySem.W.fnOf "cell_told" "Going.cell_told" (defArgs s_Going_cell_told) (defBody s_Going_cell_told) (defScope s_Going_cell_told) .none kV45 dc45 pm45 an45 cd45 ct45), sl45⟩)
  (c45 : PySem.W.codeIn K cd45 "Going.cell_told" = true)
  (k45 : PySem.W.keepIn K (.ref f45) = true)
  (a46 : PySem.W.findIn K (.ref C) "beats_more" = some (some (.ref f46)))
  (i46 : PySem.W.isFn K (.ref f46) = true)
  (l46 : K.lookup f46 = some ⟨oc46, od46, .func (PySem.W.fnOf "beats_more" "Going.beats_more" (defArgs s_Going_beats_more) (defBody s_Going_beats_more) (defScope s_Going_beats_more) .none kV46 dc46 pm46 an46 cd46 ct46), sl46⟩)
  (c46 : PySem.W.codeIn K cd46 "Going.beats_more" = true)
  (k46 : PySem.W.keepIn K (.ref f46) = true)
  (a47 : PySem.W.findIn K (.ref C) "touch" = some (some (.ref f47)))
  (i47 : PySem.W.isFn K (.ref f47) = true)
  (l47 : K.lookup f47 = some ⟨oc47, od47, .func (PySem.W.fnOf "touch" "Going.touch" (defArgs s_Going_touch) (defBody s_Going_touch) (defScope s_Going_touch) .none kV47 dc47 pm47 an47 cd47 ct47), sl47⟩)
  (c47 : PySem.W.codeIn K cd47 "Going.touch" = true)
  (k47 : PySem.W.keepIn K (.ref f47) = true)
  (a48 : PySem.W.findIn K (.ref C) "do_table" = some (some (.ref f48)))
  (i48 : PySem.W.isFn K (.ref f48) = true)
  (l48 : K.lookup f48 = some ⟨oc48, od48, .func (PySem.W.fnOf "do_table" "Going.do_table" (defArgs s_Going_do_table) (defBody s_Going_do_table) (defScope s_Going_do_table) .none kV48 dc48 pm48 an48 cd48 ct48), sl48⟩)
  (c48 : PySem.W.codeIn K cd48 "Going.do_table" = true)
  (k48 : PySem.W.keepIn K (.ref f48) = true)
  (a49 : PySem.W.findIn K (.ref C) "meet" = some (some (.ref f49)))
  (i49 : PySem.W.isFn K (.ref f49) = true)
  (l49 : K.lookup f49 = some ⟨oc49, od49, .func (PySem.W.fnOf "meet" "Going.meet" (defArgs s_Going_meet) (defBody s_Going_meet) (defScope s_Going_meet) .none kV49 dc49 pm49 an49 cd49 ct49), sl49⟩)
  (c49 : PySem.W.codeIn K cd49 "Going.meet" = true)
  (k49 : PySem.W.keepIn K (.ref f49) = true)
  (a50 : PySem.W.findIn K (.ref C) "begin" = some (some (.ref f50)))
  (i50 : PySem.W.isFn K (.ref f50) = true)
  (l50 : K.lookup f50 = some ⟨oc50, od50, .func (PySem.W.fnOf "begin" "Going.begin" (defArgs s_Going_begin) (defBody s_Going_begin) (defScope s_Going_begin) .none kV50 dc50 pm50 an50 cd50 ct50), sl50⟩)
  (c50 : PySem.W.codeIn K cd50 "Going.begin" = true)
  (k50 : PySem.W.keepIn K (.ref f50) = true)
  (a51 : PySem.W.findIn K (.ref C) "go" = some (some (.ref f51)))
  (i51 : PySem.W.isFn K (.ref f51) = true)
  (l51 : K.lookup f51 = some ⟨oc51, od51, .func (PySem.W.fnOf "go" "Going.go" (defArgs s_Going_go) (defBody s_Going_go) (defScope s_Going_go) .none kV51 dc51 pm51 an51 cd51 ct51), sl51⟩)
  (c51 : PySem.W.codeIn K cd51 "Going.go" = true)
  (k51 : PySem.W.keepIn K (.ref f51) = true)
  (a52 : PySem.W.findIn K (.ref C) "do_if" = some (some (.ref f52)))
  (i52 : PySem.W.isFn K (.ref f52) = true)
  (l52 : K.lookup f52 = some ⟨oc52, od52, .func (PySem.W.fnOf "do_if" "Going.do_if" (defArgs s_Going_do_if) (defBody s_Going_do_if) (defScope s_Going_do_if) .none kV52 dc52 pm52 an52 cd52 ct52), sl52⟩)
  (c52 : PySem.W.codeIn K cd52 "Going.do_if" = true)
  (k52 : PySem.W.keepIn K (.ref f52) = true)
  (a53 : PySem.W.findIn K (.ref C) "do" = some (some (.ref f53)))
  (i53 : PySem.W.isFn K (.ref f53) = true)
  (l53 : K.lookup f53 = some ⟨oc53, od53, .func (PySem.W.fnOf "do" "Going.do" (defArgs s_Going_do) (defBody s_Going_do) (defScope s_Going_do) .none kV53 dc53 pm53 an53 cd53 ct53), sl53⟩)
  (c53 : PySem.W.codeIn K cd53 "Going.do" = true)
  (k53 : PySem.W.keepIn K (.ref f53) = true)
  (a54 : PySem.W.findIn K (.ref C) "__init__" = some (some (.ref f54)))
  (i54 : PySem.W.isFn K (.ref f54) = true)
  (l54 : K.lookup f54 = some ⟨oc54, od54, .func (PySem.W.fnOf "__init__" "Going.__init__" (defArgs s_Going___init__) (defBody s_Going___init__) (defScope s_Going___init__) .none kV54 dc54 pm54 an54 cd54 ct54), sl54⟩)
  (c54 : PySem.W.codeIn K cd54 "Going.__init__" = true)
  (k54 : PySem.W.keepIn K (.ref f54) = true)
  (a55 : PySem.W.findIn K (.ref C) "outcome" = some (some (.ref f55)))
  (i55 : PySem.W.isFn K (.ref f55) = true)
  (l55 : K.lookup f55 = some ⟨oc55, od55, .func (PySem.W.fnOf "outcome" "Going.outcome" (defArgs s_Going_outcome) (defBody s_Going_outcome) (defScope s_Going_outcome) .none kV55 dc55 pm55 an55 cd55 ct55), sl55⟩)
  (c55 : PySem.W.codeIn K cd55 "Going.outcome" = true)
  (k55 : PySem.W.keepIn K (.ref f55) = true)
  (gTL : PySem.W.nsIn K mainGlobals "TooLong" = some (some (.ref TL)))
  (xTL : PySem.W.excIn K TL [.type "ValueError", .type "Exception", .type "BaseException", .type "object"] "ValueError.__new__" = true)
  (kTL : PySem.W.keepIn K (.ref TL) = true)
  (bTL : PySem.W.subIn K (.ref TL) (.type "BaseException") = some true)
  (tTL : PySem.W.typeIn K (.ref TL) = some (.type "type"))
  (iTL : PySem.W.isClsIn K TL = true)
  (sTL : PySem.W.subIn K (.ref TL) (.ref TL) = some true)
  (z_len : PySem.W.nsIn K mainGlobals "len" = some none)
  (z_min : PySem.W.nsIn K mainGlobals "min" = some none)
  (z_max : PySem.W.nsIn K mainGlobals "max" = some none)
  (z_isinstance : PySem.W.nsIn K mainGlobals "isinstance" = some none)
  (z_all : PySem.W.nsIn K mainGlobals "all" = some none)
  (z_repr : PySem.W.nsIn K mainGlobals "repr" = some none)
  (z_int : PySem.W.nsIn K mainGlobals "int" = some none)
  (z_bool : PySem.W.nsIn K mainGlobals "bool" = some none)
  (z_str : PySem.W.nsIn K mainGlobals "str" = some none)
  (z_tuple : PySem.W.nsIn K mainGlobals "tuple" = some none)
  (z_list : PySem.W.nsIn K mainGlobals "list" = some none)
  (z_range : PySem.W.nsIn K mainGlobals "range" = some none)
  (z_enumerate : PySem.W.nsIn K mainGlobals "enumerate" = some none)
  (z_zip : PySem.W.nsIn K mainGlobals "zip" = some none)
  (g_MOST_WORD : PySem.W.nsIn K mainGlobals "MOST_WORD" = some (some (.int 15 t_MOST_WORD)))
  (g_MANY_BOXES : PySem.W.nsIn K mainGlobals "MANY_BOXES" = some (some (.int 32 t_MANY_BOXES)))
  (g_MANY_TABLES : PySem.W.nsIn K mainGlobals "MANY_TABLES" = some (some (.int 4 t_MANY_TABLES)))
  (g_MANY_CELLS : PySem.W.nsIn K mainGlobals "MANY_CELLS" = some (some (.int 16 t_MANY_CELLS)))
  (g_MOST_STEPS : PySem.W.nsIn K mainGlobals "MOST_STEPS" = some (some (.int 400 t_MOST_STEPS)))
  (g_MOST_DEEP : PySem.W.nsIn K mainGlobals "MOST_DEEP" = some (some (.int 8 t_MOST_DEEP)))
  (g_MOST_HIDDEN : PySem.W.nsIn K mainGlobals "MOST_HIDDEN" = some (some (.int 2 t_MOST_HIDDEN)))
  (g_MOST_EVENTS : PySem.W.nsIn K mainGlobals "MOST_EVENTS" = some (some (.int 20000 t_MOST_EVENTS)))
  (g_ROOM : PySem.W.nsIn K mainGlobals "ROOM" = some (some (.int 4 t_ROOM)))
  (g_AN_ARM : PySem.W.nsIn K mainGlobals "AN_ARM" = some (some (.str "a" t_AN_ARM)))
  (g_READ_BOX : PySem.W.nsIn K mainGlobals "READ_BOX" = some (some (.str "r" t_READ_BOX)))
  (g_FORMS : PySem.W.nsIn K mainGlobals "FORMS" = some (some (.ref dF)))
  (g_BOUNDS : PySem.W.nsIn K mainGlobals "BOUNDS" = some (some (.ref dB)))
  (g_STOPS : PySem.W.nsIn K mainGlobals "STOPS" = some (some (.ref aSt)))
  (g_OF_TABLES : PySem.W.nsIn K mainGlobals "OF_TABLES" = some (some (.ref aOt)))
  (g_MOST_MAKE : PySem.W.nsIn K mainGlobals "MOST_MAKE" = some (some (.ref aMm)))
  (L_dF : K.lookup dF = some ⟨.type "dict", none, .dict es_dF n_dF, #[]⟩)
  (K_dF : PySem.W.KeysLit w.params es_dF.toList)
  (w_dF : (dF == sysModules) = false)
  (L_dB : K.lookup dB = some ⟨.type "dict", none, .dict es_dB n_dB, #[]⟩)
  (K_dB : PySem.W.KeysLit w.params es_dB.toList)
  (w_dB : (dB == sysModules) = false)
  (fo0 : PySem.W.nsIn K dF "set" = some (some (.str "sn" tf0)))
  (fo1 : PySem.W.nsIn K dF "copy" = some (some (.str "sr" tf1)))
  (fo2 : PySem.W.nsIn K dF "add" = some (some (.str "srr" tf2)))
  (fo3 : PySem.W.nsIn K dF "sub" = some (some (.str "srr" tf3)))
  (fo4 : PySem.W.nsIn K dF "less" = some (some (.str "srr" tf4)))
  (fo5 : PySem.W.nsIn K dF "same" = some (some (.str "srr" tf5)))
  (fo6 : PySem.W.nsIn K dF "mix" = some (some (.str "srr" tf6)))
  (fo7 : PySem.W.nsIn K dF "pick" = some (some (.str "srrr" tf7)))
  (fo8 : PySem.W.nsIn K dF "times" = some (some (.str "srr" tf8)))
  (fo9 : PySem.W.nsIn K dF "parts" = some (some (.str "srr" tf9)))
  (fo10 : PySem.W.nsIn K dF "take" = some (some (.str "str" tf10)))
  (fo11 : PySem.W.nsIn K dF "put" = some (some (.str "trr" tf11)))
  (fo12 : PySem.W.nsIn K dF "touch" = some (some (.str "tr" tf12)))
  (fo13 : PySem.W.nsIn K dF "tell" = some (some (.str "r" tf13)))
  (fo14 : PySem.W.nsIn K dF "idle" = some (some (.str "m" tf14)))
  (fo15 : PySem.W.nsIn K dF "if" = some (some (.str "raa" tf15)))
  (fo16 : PySem.W.nsIn K dF "round" = some (some (.str "ga" tf16)))
  (fo17 : PySem.W.nsIn K dF "turn" = some (some (.str "ra" tf17)))
  (bo0 : PySem.W.nsIn K dB "s" = some (some (.ref ab0)))
  (T_b0 : K.lookup ab0 = some ⟨.type "tuple", dd_b0, .seq #[.int 0 tt_b0_0, .int 31 tt_b0_1] nn_b0, ss_b0⟩)
  (bo1 : PySem.W.nsIn K dB "r" = some (some (.ref ab1)))
  (T_b1 : K.lookup ab1 = some ⟨.type "tuple", dd_b1, .seq #[.int 0 tt_b1_0, .int 31 tt_b1_1] nn_b1, ss_b1⟩)
  (bo2 : PySem.W.nsIn K dB "n" = some (some (.ref ab2)))
  (T_b2 : K.lookup ab2 = some ⟨.type "tuple", dd_b2, .seq #[.int 0 tt_b2_0, .int 15 tt_b2_1] nn_b2, ss_b2⟩)
  (bo3 : PySem.W.nsIn K dB "t" = some (some (.ref ab3)))
  (T_b3 : K.lookup ab3 = some ⟨.type "tuple", dd_b3, .seq #[.int 0 tt_b3_0, .int 3 tt_b3_1] nn_b3, ss_b3⟩)
  (bo4 : PySem.W.nsIn K dB "m" = some (some (.ref ab4)))
  (T_b4 : K.lookup ab4 = some ⟨.type "tuple", dd_b4, .seq #[.int 1 tt_b4_0, .int 60 tt_b4_1] nn_b4, ss_b4⟩)
  (bo5 : PySem.W.nsIn K dB "g" = some (some (.ref ab5)))
  (T_b5 : K.lookup ab5 = some ⟨.type "tuple", dd_b5, .seq #[.int 1 tt_b5_0, .int 15 tt_b5_1] nn_b5, ss_b5⟩)
  (T_st : K.lookup aSt = some ⟨.type "tuple", dd_st, .seq #[.str "if" tt_st_0, .str "round" tt_st_1, .str "turn" tt_st_2, .str "tell" tt_st_3, .str "idle" tt_st_4] nn_st, ss_st⟩)
  (T_ot : K.lookup aOt = some ⟨.type "tuple", dd_ot, .seq #[.str "take" tt_ot_0, .str "put" tt_ot_1, .str "touch" tt_ot_2] nn_ot, ss_ot⟩)
  (T_mm : K.lookup aMm = some ⟨.type "tuple", dd_mm, .seq #[.int 4 tt_mm_0, .int 9 tt_mm_1, .int 9 tt_mm_2, .int 4 tt_mm_3, .int 1 tt_mm_4] nn_mm, ss_mm⟩) :
  ∃ fd : FuncData, (∀ (s : Shared) (v : Value), BindsTo s fd ⟨[v], []⟩ [("_law_script", v)]) ∧ ∀ base : Heap, K.In base → base.Ns mainGlobals mg → FnOk l.prog w K mg base CX0 35 fa fd ["_law_script"] (spLaw K) := by
  have e := hfa.symm.trans (PySem.W.mg_of X G a44)
  cases e
  have D_is_among : Df K mg "is_among" s_is_among ["thing", "least", "most"] := ⟨_, _, fun_mk (st := s_is_among) l0 c0 k0, PySem.W.mg_of X G a0, (fun_mk (st := s_is_among) l0 c0 k0).binds (ps := ["thing", "least", "most"]) fun _ _ _ _ _ _ us hl => match us, hl with | [_, _, _], _ => rfl⟩
  have D_is_word : Df K mg "is_word" s_is_word ["thing"] := ⟨_, _, fun_mk (st := s_is_word) l1 c1 k1, PySem.W.mg_of X G a1, (fun_mk (st := s_is_word) l1 c1 k1).binds (ps := ["thing"]) fun _ _ _ _ _ _ us hl => match us, hl with | [_], _ => rfl⟩
  have D_is_part : Df K mg "is_part" s_is_part ["sort", "thing"] := ⟨_, _, fun_mk (st := s_is_part) l2 c2 k2, PySem.W.mg_of X G a2, (fun_mk (st := s_is_part) l2 c2 k2).binds (ps := ["sort", "thing"]) fun _ _ _ _ _ _ us hl => match us, hl with | [_, _], _ => rfl⟩
  have D_has_form : Df K mg "has_form" s_has_form ["thing"] := ⟨_, _, fun_mk (st := s_has_form) l3 c3 k3, PySem.W.mg_of X G a3, (fun_mk (st := s_has_form) l3 c3 k3).binds (ps := ["thing"]) fun _ _ _ _ _ _ us hl => match us, hl with | [_], _ => rfl⟩
  have D_parts_of : Df K mg "parts_of" s_parts_of ["step", "sort"] := ⟨_, _, fun_mk (st := s_parts_of) l4 c4 k4, PySem.W.mg_of X G a4, (fun_mk (st := s_parts_of) l4 c4 k4).binds (ps := ["step", "sort"]) fun _ _ _ _ _ _ us hl => match us, hl with | [_, _], _ => rfl⟩
  have D_arms_of : Df K mg "arms_of" s_arms_of ["step"] := ⟨_, _, fun_mk (st := s_arms_of) l5 c5 k5, PySem.W.mg_of X G a5, (fun_mk (st := s_arms_of) l5 c5 k5).binds (ps := ["step"]) fun _ _ _ _ _ _ us hl => match us, hl with | [_], _ => rfl⟩
  have D_reads : Df K mg "reads" s_reads ["step"] := ⟨_, _, fun_mk (st := s_reads) l6 c6 k6, PySem.W.mg_of X G a6, (fun_mk (st := s_reads) l6 c6 k6).binds (ps := ["step"]) fun _ _ _ _ _ _ us hl => match us, hl with | [_], _ => rfl⟩
  have D_with_paths : Df K mg "with_paths" s_with_paths ["steps", "ahead"] := ⟨_, _, fun_mk (st := s_with_paths) l7 c7 k7, PySem.W.mg_of X G a7, (fun_mk (st := s_with_paths) l7 c7 k7).binds (ps := ["steps", "ahead"]) fun _ _ _ _ _ _ us hl => match us, hl with | [_, _], _ => rfl⟩
  have D_need_program : Df K mg "need_program" s_need_program ["thing"] := ⟨_, _, fun_mk (st := s_need_program) l8 c8 k8, PySem.W.mg_of X G a8, (fun_mk (st := s_need_program) l8 c8 k8).binds (ps := ["thing"]) fun _ _ _ _ _ _ us hl => match us, hl with | [_], _ => rfl⟩
  have D_are_words : Df K mg "are_words" s_are_words ["thing", "many"] := ⟨_, _, fun_mk (st := s_are_words) l9 c9 k9, PySem.W.mg_of X G a9, (fun_mk (st := s_are_words) l9 c9 k9).binds (ps := ["thing", "many"]) fun _ _ _ _ _ _ us hl => match us, hl with | [_, _], _ => rfl⟩
  have D_is_world : Df K mg "is_world" s_is_world ["thing"] := ⟨_, _, fun_mk (st := s_is_world) l10 c10 k10, PySem.W.mg_of X G a10, (fun_mk (st := s_is_world) l10 c10 k10).binds (ps := ["thing"]) fun _ _ _ _ _ _ us hl => match us, hl with | [_], _ => rfl⟩
  have D_need_world : Df K mg "need_world" s_need_world ["thing"] := ⟨_, _, fun_mk (st := s_need_world) l11 c11 k11, PySem.W.mg_of X G a11, (fun_mk (st := s_need_world) l11 c11 k11).binds (ps := ["thing"]) fun _ _ _ _ _ _ us hl => match us, hl with | [_], _ => rfl⟩
  have D_is_rising : Df K mg "is_rising" s_is_rising ["thing", "many"] := ⟨_, _, fun_mk (st := s_is_rising) l12 c12 k12, PySem.W.mg_of X G a12, (fun_mk (st := s_is_rising) l12 c12 k12).binds (ps := ["thing", "many"]) fun _ _ _ _ _ _ us hl => match us, hl with | [_, _], _ => rfl⟩
  have D_is_hidden : Df K mg "is_hidden" s_is_hidden ["thing"] := ⟨_, _, fun_mk (st := s_is_hidden) l13 c13 k13, PySem.W.mg_of X G a13, (fun_mk (st := s_is_hidden) l13 c13 k13).binds (ps := ["thing"]) fun _ _ _ _ _ _ us hl => match us, hl with | [_], _ => rfl⟩
  have D_need_hidden : Df K mg "need_hidden" s_need_hidden ["thing"] := ⟨_, _, fun_mk (st := s_need_hidden) l14 c14 k14, PySem.W.mg_of X G a14, (fun_mk (st := s_need_hidden) l14 c14 k14).binds (ps := ["thing"]) fun _ _ _ _ _ _ us hl => match us, hl with | [_], _ => rfl⟩
  have D_is_make : Df K mg "is_make" s_is_make ["thing"] := ⟨_, _, fun_mk (st := s_is_make) l15 c15 k15, PySem.W.mg_of X G a15, (fun_mk (st := s_is_make) l15 c15 k15).binds (ps := ["thing"]) fun _ _ _ _ _ _ us hl => match us, hl with | [_], _ => rfl⟩
  have D_need_make : Df K mg "need_make" s_need_make ["thing"] := ⟨_, _, fun_mk (st := s_need_make) l16 c16 k16, PySem.W.mg_of X G a16, (fun_mk (st := s_need_make) l16 c16 k16).binds (ps := ["thing"]) fun _ _ _ _ _ _ us hl => match us, hl with | [_], _ => rfl⟩
  have D_worlds_of : Df K mg "worlds_of" s_worlds_of ["world", "hidden"] := ⟨_, _, fun_mk (st := s_worlds_of) l17 c17 k17, PySem.W.mg_of X G a17, (fun_mk (st := s_worlds_of) l17 c17 k17).binds (ps := ["world", "hidden"]) fun _ _ _ _ _ _ us hl => match us, hl with | [_, _], _ => rfl⟩
  have D_deed_told : Df K mg "deed_told" s_deed_told ["step", "boxes"] := ⟨_, _, fun_mk (st := s_deed_told) l18 c18 k18, PySem.W.mg_of X G a18, (fun_mk (st := s_deed_told) l18 c18 k18).binds (ps := ["step", "boxes"]) fun _ _ _ _ _ _ us hl => match us, hl with | [_, _], _ => rfl⟩
  have D_need_run : Df K mg "need_run" s_need_run ["program", "make", "world"] := ⟨_, _, fun_mk (st := s_need_run) l19 c19 k19, PySem.W.mg_of X G a19, (fun_mk (st := s_need_run) l19 c19 k19).binds (ps := ["program", "make", "world"]) fun _ _ _ _ _ _ us hl => match us, hl with | [_, _, _], _ => rfl⟩
  have D_gone : Df K mg "gone" s_gone ["program", "make", "world"] := ⟨_, _, fun_mk (st := s_gone) l20 c20 k20, PySem.W.mg_of X G a20, (fun_mk (st := s_gone) l20 c20 k20).binds (ps := ["program", "make", "world"]) fun _ _ _ _ _ _ us hl => match us, hl with | [_, _, _], _ => rfl⟩
  have D_run : Df K mg "run" s_run ["program", "make", "world"] := ⟨_, _, fun_mk (st := s_run) l21 c21 k21, PySem.W.mg_of X G a21, (fun_mk (st := s_run) l21 c21 k21).binds (ps := ["program", "make", "world"]) fun _ _ _ _ _ _ us hl => match us, hl with | [_, _, _], _ => rfl⟩
  have D_events : Df K mg "events" s_events ["program", "make", "world"] := ⟨_, _, fun_mk (st := s_events) l22 c22 k22, PySem.W.mg_of X G a22, (fun_mk (st := s_events) l22 c22 k22).binds (ps := ["program", "make", "world"]) fun _ _ _ _ _ _ us hl => match us, hl with | [_, _, _], _ => rfl⟩
  have D_seen_of : Df K mg "seen_of" s_seen_of ["going"] := ⟨_, _, fun_mk (st := s_seen_of) l23 c23 k23, PySem.W.mg_of X G a23, (fun_mk (st := s_seen_of) l23 c23 k23).binds (ps := ["going"]) fun _ _ _ _ _ _ us hl => match us, hl with | [_], _ => rfl⟩
  have D_two_gone : Df K mg "two_gone" s_two_gone ["program", "make", "one", "other"] := ⟨_, _, fun_mk (st := s_two_gone) l24 c24 k24, PySem.W.mg_of X G a24, (fun_mk (st := s_two_gone) l24 c24 k24).binds (ps := ["program", "make", "one", "other"]) fun _ _ _ _ _ _ us hl => match us, hl with | [_, _, _, _], _ => rfl⟩
  have D_seen_alike : Df K mg "seen_alike" s_seen_alike ["program", "make", "one", "other"] := ⟨_, _, fun_mk (st := s_seen_alike) l25 c25 k25, PySem.W.mg_of X G a25, (fun_mk (st := s_seen_alike) l25 c25 k25).binds (ps := ["program", "make", "one", "other"]) fun _ _ _ _ _ _ us hl => match us, hl with | [_, _, _, _], _ => rfl⟩
  have D_beat_parted : Df K mg "beat_parted" s_beat_parted ["mine", "yours"] := ⟨_, _, fun_mk (st := s_beat_parted) l26 c26 k26, PySem.W.mg_of X G a26, (fun_mk (st := s_beat_parted) l26 c26 k26).binds (ps := ["mine", "yours"]) fun _ _ _ _ _ _ us hl => match us, hl with | [_, _], _ => rfl⟩
  have D_path_at : Df K mg "path_at" s_path_at ["going", "beat"] := ⟨_, _, fun_mk (st := s_path_at) l27 c27 k27, PySem.W.mg_of X G a27, (fun_mk (st := s_path_at) l27 c27 k27).binds (ps := ["going", "beat"]) fun _ _ _ _ _ _ us hl => match us, hl with | [_, _], _ => rfl⟩
  have D_parted : Df K mg "parted" s_parted ["program", "make", "one", "other"] := ⟨_, _, fun_mk (st := s_parted) l28 c28 k28, PySem.W.mg_of X G a28, (fun_mk (st := s_parted) l28 c28 k28).binds (ps := ["program", "make", "one", "other"]) fun _ _ _ _ _ _ us hl => match us, hl with | [_, _, _, _], _ => rfl⟩
  have D_uneven : Df K mg "uneven" s_uneven ["program", "make", "world", "hidden"] := ⟨_, _, fun_mk (st := s_uneven) l29 c29 k29, PySem.W.mg_of X G a29, (fun_mk (st := s_uneven) l29 c29 k29).binds (ps := ["program", "make", "world", "hidden"]) fun _ _ _ _ _ _ us hl => match us, hl with | [_, _, _, _], _ => rfl⟩
  have D__law_cell : Df K mg "_law_cell" s_law_cell ["_law_cells", "_law_spot"] := ⟨_, _, fun_mk (st := s_law_cell) l30 c30 k30, PySem.W.mg_of X G a30, (fun_mk (st := s_law_cell) l30 c30 k30).binds (ps := ["_law_cells", "_law_spot"]) fun _ _ _ _ _ _ us hl => match us, hl with | [_, _], _ => rfl⟩
  have D__law_step : Df K mg "_law_step" s_law_step ["_law_cells", "_law_spot", "_law_room", "_law_deep", "_law_pool", "_law_menu_here"] := ⟨_, _, fun_mk (st := s_law_step) l31 c31 k31, PySem.W.mg_of X G a31, (fun_mk (st := s_law_step) l31 c31 k31).binds (ps := ["_law_cells", "_law_spot", "_law_room", "_law_deep", "_law_pool", "_law_menu_here"]) fun _ _ _ _ _ _ us hl => match us, hl with | [_, _, _, _, _, _], _ => rfl⟩
  have D__law_steps : Df K mg "_law_steps" s_law_steps ["_law_cells", "_law_spot", "_law_room", "_law_deep", "_law_pool", "_law_menu_here"] := ⟨_, _, fun_mk (st := s_law_steps) l32 c32 k32, PySem.W.mg_of X G a32, (fun_mk (st := s_law_steps) l32 c32 k32).binds (ps := ["_law_cells", "_law_spot", "_law_room", "_law_deep", "_law_pool", "_law_menu_here"]) fun _ _ _ _ _ _ us hl => match us, hl with | [_, _, _, _, _, _], _ => rfl⟩
  have D__law_menu : Df K mg "_law_menu" s_law_menu [] := ⟨_, _, fun_mk (st := s_law_menu) l33 c33 k33, PySem.W.mg_of X G a33, (fun_mk (st := s_law_menu) l33 c33 k33).binds (ps := []) fun _ _ _ _ _ _ us hl => match us, hl with | [], _ => rfl⟩
  have D__law_program : Df K mg "_law_program" s_law_program ["_law_cells", "_law_spot", "_law_menu_here"] := ⟨_, _, fun_mk (st := s_law_program) l34 c34 k34, PySem.W.mg_of X G a34, (fun_mk (st := s_law_program) l34 c34 k34).binds (ps := ["_law_cells", "_law_spot", "_law_menu_here"]) fun _ _ _ _ _ _ us hl => match us, hl with | [_, _, _], _ => rfl⟩
  have D__law_world : Df K mg "_law_world" s_law_world ["_law_cells", "_law_spot"] := ⟨_, _, fun_mk (st := s_law_world) l35 c35 k35, PySem.W.mg_of X G a35, (fun_mk (st := s_law_world) l35 c35 k35).binds (ps := ["_law_cells", "_law_spot"]) fun _ _ _ _ _ _ us hl => match us, hl with | [_, _], _ => rfl⟩
  have D__law_make : Df K mg "_law_make" s_law_make ["_law_cells", "_law_spot"] := ⟨_, _, fun_mk (st := s_law_make) l36 c36 k36, PySem.W.mg_of X G a36, (fun_mk (st := s_law_make) l36 c36 k36).binds (ps := ["_law_cells", "_law_spot"]) fun _ _ _ _ _ _ us hl => match us, hl with | [_, _], _ => rfl⟩
  have D__law_fits : Df K mg "_law_fits" s_law_fits ["_law_program_here", "_law_make_here", "_law_world_here"] := ⟨_, _, fun_mk (st := s_law_fits) l37 c37 k37, PySem.W.mg_of X G a37, (fun_mk (st := s_law_fits) l37 c37 k37).binds (ps := ["_law_program_here", "_law_make_here", "_law_world_here"]) fun _ _ _ _ _ _ us hl => match us, hl with | [_, _, _], _ => rfl⟩
  have D__law_at : Df K mg "_law_at" s_law_at ["_law_program_here", "_law_path"] := ⟨_, _, fun_mk (st := s_law_at) l38 c38 k38, PySem.W.mg_of X G a38, (fun_mk (st := s_law_at) l38 c38 k38).binds (ps := ["_law_program_here", "_law_path"]) fun _ _ _ _ _ _ us hl => match us, hl with | [_, _], _ => rfl⟩
  have D__law_beats_fit : Df K mg "_law_beats_fit" s_law_beats_fit ["_law_step_here", "_law_beats", "_law_make_here"] := ⟨_, _, fun_mk (st := s_law_beats_fit) l39 c39 k39, PySem.W.mg_of X G a39, (fun_mk (st := s_law_beats_fit) l39 c39 k39).binds (ps := ["_law_step_here", "_law_beats", "_law_make_here"]) fun _ _ _ _ _ _ us hl => match us, hl with | [_, _, _], _ => rfl⟩
  have D__law_events_right : Df K mg "_law_events_right" s_law_events_right ["_law_program_here", "_law_make_here", "_law_world_here"] := ⟨_, _, fun_mk (st := s_law_events_right) l40 c40 k40, PySem.W.mg_of X G a40, (fun_mk (st := s_law_events_right) l40 c40 k40).binds (ps := ["_law_program_here", "_law_make_here", "_law_world_here"]) fun _ _ _ _ _ _ us hl => match us, hl with | [_, _, _], _ => rfl⟩
  have D__law_put_right : Df K mg "_law_put_right" s_law_put_right ["_law_program_here", "_law_other", "_law_make_here", "_law_world_here"] := ⟨_, _, fun_mk (st := s_law_put_right) l41 c41 k41, PySem.W.mg_of X G a41, (fun_mk (st := s_law_put_right) l41 c41 k41).binds (ps := ["_law_program_here", "_law_other", "_law_make_here", "_law_world_here"]) fun _ _ _ _ _ _ us hl => match us, hl with | [_, _, _, _], _ => rfl⟩
  have D__law_two_right : Df K mg "_law_two_right" s_law_two_right ["_law_program_here", "_law_make_here", "_law_one", "_law_other"] := ⟨_, _, fun_mk (st := s_law_two_right) l42 c42 k42, PySem.W.mg_of X G a42, (fun_mk (st := s_law_two_right) l42 c42 k42).binds (ps := ["_law_program_here", "_law_make_here", "_law_one", "_law_other"]) fun _ _ _ _ _ _ us hl => match us, hl with | [_, _, _, _], _ => rfl⟩
  have D__law_uneven_right : Df K mg "_law_uneven_right" s_law_uneven_right ["_law_program_here", "_law_make_here", "_law_world_here", "_law_box"] := ⟨_, _, fun_mk (st := s_law_uneven_right) l43 c43 k43, PySem.W.mg_of X G a43, (fun_mk (st := s_law_uneven_right) l43 c43 k43).binds (ps := ["_law_program_here", "_law_make_here", "_law_world_here", "_law_box"]) fun _ _ _ _ _ _ us hl => match us, hl with | [_, _, _, _], _ => rfl⟩
  have c : GoC K C := ⟨⟨pg, hd, po, sa⟩, List.forall_mem_cons.mpr ⟨na_nearness, List.forall_mem_cons.mpr ⟨na_far, List.forall_mem_cons.mpr ⟨na_wrong, List.forall_mem_cons.mpr ⟨na_width, List.forall_mem_cons.mpr ⟨na_long, List.forall_mem_cons.mpr ⟨na_boxes, List.forall_mem_cons.mpr ⟨na_tables, List.forall_mem_cons.mpr ⟨na_said, List.forall_mem_cons.mpr ⟨na_beats, List.forall_mem_cons.mpr ⟨na_touches, List.forall_mem_cons.mpr ⟨na_nearest, List.forall_mem_cons.mpr ⟨na_went, List.forall_mem_cons.mpr ⟨na_met, (fun _ h => nomatch h)⟩⟩⟩⟩⟩⟩⟩⟩⟩⟩⟩⟩⟩⟩
  have D_cell_told : DfM K C "cell_told" "Going.cell_told" s_Going_cell_told ["self", "step", "boxes"] := ⟨_, _, fun_mk (st := s_Going_cell_told) l45 c45 k45, c.cls, ⟨a45, i45, k45⟩, (fun_mk (st := s_Going_cell_told) l45 c45 k45).binds (ps := ["self", "step", "boxes"]) fun _ _ _ _ _ _ us hl => match us, hl with | [_, _, _], _ => rfl⟩
  have D_beats_more : DfM K C "beats_more" "Going.beats_more" s_Going_beats_more ["self", "step", "found"] := ⟨_, _, fun_mk (st := s_Going_beats_more) l46 c46 k46, c.cls, ⟨a46, i46, k46⟩, (fun_mk (st := s_Going_beats_more) l46 c46 k46).binds (ps := ["self", "step", "found"]) fun _ _ _ _ _ _ us hl => match us, hl with | [_, _, _], _ => rfl⟩
  have D_touch : DfM K C "touch" "Going.touch" s_Going_touch ["self", "step", "boxes", "beat"] := ⟨_, _, fun_mk (st := s_Going_touch) l47 c47 k47, c.cls, ⟨a47, i47, k47⟩, (fun_mk (st := s_Going_touch) l47 c47 k47).binds (ps := ["self", "step", "boxes", "beat"]) fun _ _ _ _ _ _ us hl => match us, hl with | [_, _, _, _], _ => rfl⟩
  have D_do_table : DfM K C "do_table" "Going.do_table" s_Going_do_table ["self", "step"] := ⟨_, _, fun_mk (st := s_Going_do_table) l48 c48 k48, c.cls, ⟨a48, i48, k48⟩, (fun_mk (st := s_Going_do_table) l48 c48 k48).binds (ps := ["self", "step"]) fun _ _ _ _ _ _ us hl => match us, hl with | [_, _], _ => rfl⟩
  have D_meet : DfM K C "meet" "Going.meet" s_Going_meet ["self", "path", "more"] := ⟨_, _, fun_mk (st := s_Going_meet) l49 c49 k49, c.cls, ⟨a49, i49, k49⟩, (fun_mk (st := s_Going_meet) l49 c49 k49).binds (ps := ["self", "path", "more"]) fun _ _ _ _ _ _ us hl => match us, hl with | [_, _, _], _ => rfl⟩
  have D_begin : DfM K C "begin" "Going.begin" s_Going_begin ["self", "steps", "beat"] := ⟨_, _, fun_mk (st := s_Going_begin) l50 c50 k50, c.cls, ⟨a50, i50, k50⟩, (fun_mk (st := s_Going_begin) l50 c50 k50).binds (ps := ["self", "steps", "beat"]) fun _ _ _ _ _ _ us hl => match us, hl with | [_, _, _], _ => rfl⟩
  have D_go : DfM K C "go" "Going.go" s_Going_go ["self", "steps", "ahead"] := ⟨_, _, fun_mk (st := s_Going_go) l51 c51 k51, c.cls, ⟨a51, i51, k51⟩, (fun_mk (st := s_Going_go) l51 c51 k51).binds (ps := ["self", "steps", "ahead"]) fun _ _ _ _ _ _ us hl => match us, hl with | [_, _, _], _ => rfl⟩
  have D_do_if : DfM K C "do_if" "Going.do_if" s_Going_do_if ["self", "step", "path"] := ⟨_, _, fun_mk (st := s_Going_do_if) l52 c52 k52, c.cls, ⟨a52, i52, k52⟩, (fun_mk (st := s_Going_do_if) l52 c52 k52).binds (ps := ["self", "step", "path"]) fun _ _ _ _ _ _ us hl => match us, hl with | [_, _, _], _ => rfl⟩
  have D_do : DfM K C "do" "Going.do" s_Going_do ["self", "step", "path"] := ⟨_, _, fun_mk (st := s_Going_do) l53 c53 k53, c.cls, ⟨a53, i53, k53⟩, (fun_mk (st := s_Going_do) l53 c53 k53).binds (ps := ["self", "step", "path"]) fun _ _ _ _ _ _ us hl => match us, hl with | [_, _, _], _ => rfl⟩
  have D___init__ : DfI K mg "Going" C "Going.__init__" s_Going___init__ ["self", "make", "world"] := ⟨_, _, fun_mk (st := s_Going___init__) l54 c54 k54, ⟨mk, a54, i54, kc⟩, PySem.W.mg_of X G aC, (fun_mk (st := s_Going___init__) l54 c54 k54).binds (ps := ["self", "make", "world"]) fun _ _ _ _ _ _ us hl => match us, hl with | [_, _, _], _ => rfl⟩
  have D_outcome : DfM K C "outcome" "Going.outcome" s_Going_outcome ["self"] := ⟨_, _, fun_mk (st := s_Going_outcome) l55 c55 k55, c.cls, ⟨a55, i55, k55⟩, (fun_mk (st := s_Going_outcome) l55 c55 k55).binds (ps := ["self"]) fun _ _ _ _ _ _ us hl => match us, hl with | [_], _ => rfl⟩
  have TLf : TLF K mg TL := ⟨xTL, PySem.W.mg_of X G gTL, kTL, bTL, tTL⟩
  have TLx : TLX K mg TL := ⟨PySem.W.mg_of X G gTL, exm_self bTL iTL tTL sTL⟩
  have T : Txt K mg w dF dB aSt aOt aMm := ⟨PySem.W.mg_none_of X G z_len,
    PySem.W.mg_none_of X G z_min,
    PySem.W.mg_none_of X G z_max,
    PySem.W.mg_none_of X G z_isinstance,
    PySem.W.mg_none_of X G z_all,
    PySem.W.mg_none_of X G z_repr,
    PySem.W.mg_none_of X G z_int,
    PySem.W.mg_none_of X G z_bool,
    PySem.W.mg_none_of X G z_str,
    PySem.W.mg_none_of X G z_tuple,
    PySem.W.mg_none_of X G z_list,
    PySem.W.mg_none_of X G z_range,
    PySem.W.mg_none_of X G z_enumerate,
    PySem.W.mg_none_of X G z_zip,
    ⟨_, PySem.W.mg_of X G g_MOST_WORD, _, rfl⟩,
    ⟨_, PySem.W.mg_of X G g_MANY_BOXES, _, rfl⟩,
    ⟨_, PySem.W.mg_of X G g_MANY_TABLES, _, rfl⟩,
    ⟨_, PySem.W.mg_of X G g_MANY_CELLS, _, rfl⟩,
    ⟨_, PySem.W.mg_of X G g_MOST_STEPS, _, rfl⟩,
    ⟨_, PySem.W.mg_of X G g_MOST_DEEP, _, rfl⟩,
    ⟨_, PySem.W.mg_of X G g_MOST_HIDDEN, _, rfl⟩,
    ⟨_, PySem.W.mg_of X G g_MOST_EVENTS, _, rfl⟩,
    ⟨_, PySem.W.mg_of X G g_ROOM, _, rfl⟩,
    ⟨_, PySem.W.mg_of X G g_AN_ARM, _, rfl⟩,
    ⟨_, PySem.W.mg_of X G g_READ_BOX, _, rfl⟩,
    ⟨_, PySem.W.mg_of X G g_FORMS, rfl⟩,
    ⟨_, PySem.W.mg_of X G g_BOUNDS, rfl⟩,
    ⟨_, PySem.W.mg_of X G g_STOPS, rfl⟩,
    ⟨_, PySem.W.mg_of X G g_OF_TABLES, rfl⟩,
    ⟨_, PySem.W.mg_of X G g_MOST_MAKE, rfl⟩,
    ⟨_, _, L_dF, K_dF, w_dF⟩,
    ⟨_, _, L_dB, K_dB, w_dB⟩,
    List.forall_mem_cons.mpr ⟨⟨_, fo0⟩, List.forall_mem_cons.mpr ⟨⟨_, fo1⟩, List.forall_mem_cons.mpr ⟨⟨_, fo2⟩, List.forall_mem_cons.mpr ⟨⟨_, fo3⟩, List.forall_mem_cons.mpr ⟨⟨_, fo4⟩, List.forall_mem_cons.mpr ⟨⟨_, fo5⟩, List.forall_mem_cons.mpr ⟨⟨_, fo6⟩, List.forall_mem_cons.mpr ⟨⟨_, fo7⟩, List.forall_mem_cons.mpr ⟨⟨_, fo8⟩, List.forall_mem_cons.mpr ⟨⟨_, fo9⟩, List.forall_mem_cons.mpr ⟨⟨_, fo10⟩, List.forall_mem_cons.mpr ⟨⟨_, fo11⟩, List.forall_mem_cons.mpr ⟨⟨_, fo12⟩, List.forall_mem_cons.mpr ⟨⟨_, fo13⟩, List.forall_mem_cons.mpr ⟨⟨_, fo14⟩, List.forall_mem_cons.mpr ⟨⟨_, fo15⟩, List.forall_mem_cons.mpr ⟨⟨_, fo16⟩, List.forall_mem_cons.mpr ⟨⟨_, fo17⟩, (fun _ h => nomatch h)⟩⟩⟩⟩⟩⟩⟩⟩⟩⟩⟩⟩⟩⟩⟩⟩⟩⟩,
    List.forall_mem_cons.mpr ⟨⟨_, bo0, ⟨_, _, _, T_b0, rfl, rfl, Nat.le_of_ble_eq_true rfl, .cons ⟨_, rfl⟩ (.cons ⟨_, rfl⟩ (.nil))⟩⟩, List.forall_mem_cons.mpr ⟨⟨_, bo1, ⟨_, _, _, T_b1, rfl, rfl, Nat.le_of_ble_eq_true rfl, .cons ⟨_, rfl⟩ (.cons ⟨_, rfl⟩ (.nil))⟩⟩, List.forall_mem_cons.mpr ⟨⟨_, bo2, ⟨_, _, _, T_b2, rfl, rfl, Nat.le_of_ble_eq_true rfl, .cons ⟨_, rfl⟩ (.cons ⟨_, rfl⟩ (.nil))⟩⟩, List.forall_mem_cons.mpr ⟨⟨_, bo3, ⟨_, _, _, T_b3, rfl, rfl, Nat.le_of_ble_eq_true rfl, .cons ⟨_, rfl⟩ (.cons ⟨_, rfl⟩ (.nil))⟩⟩, List.forall_mem_cons.mpr ⟨⟨_, bo4, ⟨_, _, _, T_b4, rfl, rfl, Nat.le_of_ble_eq_true rfl, .cons ⟨_, rfl⟩ (.cons ⟨_, rfl⟩ (.nil))⟩⟩, List.forall_mem_cons.mpr ⟨⟨_, bo5, ⟨_, _, _, T_b5, rfl, rfl, Nat.le_of_ble_eq_true rfl, .cons ⟨_, rfl⟩ (.cons ⟨_, rfl⟩ (.nil))⟩⟩, (fun _ h => nomatch h)⟩⟩⟩⟩⟩⟩,
    ⟨_, _, _, T_st, rfl, rfl, Nat.le_of_ble_eq_true rfl, .cons ⟨_, rfl⟩ (.cons ⟨_, rfl⟩ (.cons ⟨_, rfl⟩ (.cons ⟨_, rfl⟩ (.cons ⟨_, rfl⟩ (.nil)))))⟩,
    ⟨_, _, _, T_ot, rfl, rfl, Nat.le_of_ble_eq_true rfl, .cons ⟨_, rfl⟩ (.cons ⟨_, rfl⟩ (.cons ⟨_, rfl⟩ (.nil)))⟩,
    ⟨_, _, _, T_mm, rfl, rfl, Nat.le_of_ble_eq_true rfl, .cons ⟨_, rfl⟩ (.cons ⟨_, rfl⟩ (.cons ⟨_, rfl⟩ (.cons ⟨_, rfl⟩ (.cons ⟨_, rfl⟩ (.nil)))))⟩⟩
  refine ⟨PySem.W.fnOf "law" "law" (defArgs s_law) (defBody s_law) (defScope s_law) .none kV44 dc44 pm44 an44 cd44 ct44, fun s v => .of_eq rfl, fun base _ _ => ?_⟩
  have h_is_among := c_is_among (Pg := l.prog) (w := w) (base := base) D_is_among T
  have h_is_word := c_is_word (Pg := l.prog) (w := w) (base := base) D_is_word T h_is_among
  have h_is_part := c_is_part (Pg := l.prog) (w := w) (base := base) D_is_part T h_is_among
  have h_has_form := c_has_form (Pg := l.prog) (w := w) (base := base) D_has_form T h_is_part
  have h_parts_of := c_parts_of (Pg := l.prog) (w := w) (base := base) D_parts_of T
  have h_arms_of := c_arms_of (Pg := l.prog) (w := w) (base := base) D_arms_of T h_parts_of
  have h_reads := c_reads (Pg := l.prog) (w := w) (base := base) D_reads T h_parts_of
  have h_with_paths := c_with_paths (Pg := l.prog) (w := w) (base := base) D_with_paths T
  have h_need_program := c_need_program (Pg := l.prog) (w := w) (base := base) D_need_program T h_with_paths h_has_form h_arms_of
  have h_are_words := c_are_words (Pg := l.prog) (w := w) (base := base) D_are_words T h_is_word
  have h_is_world := c_is_world (Pg := l.prog) (w := w) (base := base) D_is_world T h_are_words
  have h_need_world := c_need_world (Pg := l.prog) (w := w) (base := base) D_need_world T h_is_world
  have h_is_rising := c_is_rising (Pg := l.prog) (w := w) (base := base) D_is_rising T h_is_among
  have h_is_hidden := c_is_hidden (Pg := l.prog) (w := w) (base := base) D_is_hidden T h_is_rising
  have h_need_hidden := c_need_hidden (Pg := l.prog) (w := w) (base := base) D_need_hidden T h_is_hidden
  have h_is_make := c_is_make (Pg := l.prog) (w := w) (base := base) D_is_make T h_is_among
  have h_need_make := c_need_make (Pg := l.prog) (w := w) (base := base) D_need_make T h_is_make
  have h_worlds_of := c_worlds_of (Pg := l.prog) (w := w) (base := base) D_worlds_of T h_need_world h_need_hidden
  have h_deed_told := c_deed_told (Pg := l.prog) (w := w) (base := base) D_deed_told T h_reads
  have h_cell_told := m_cell_told (Pg := l.prog) (w := w) (base := base) D_cell_told T
  have h_beats_more := m_beats_more (Pg := l.prog) (w := w) (base := base) D_beats_more T c
  have h_touch := m_touch (Pg := l.prog) (w := w) (base := base) D_touch T c h_cell_told
  have h_do_table := m_do_table (Pg := l.prog) (w := w) (base := base) D_do_table T c h_cell_told
  have h_meet := m_meet (Pg := l.prog) (w := w) (base := base) D_meet T c TLf
  have h_begin := m_begin (Pg := l.prog) (w := w) (base := base) D_begin T c h_cell_told h_touch h_deed_told
  have h_go := m_go_all (Pg := l.prog) (w := w) (base := base) D_go D_do D_do_if T c h_meet h_touch h_do_table h_beats_more h_begin h_deed_told 8
  have h_Going := c_Going (Pg := l.prog) (w := w) (base := base) D___init__ T c
  have h_outcome := m_outcome (Pg := l.prog) (w := w) (base := base) D_outcome T c
  have h_need_run := c_need_run (Pg := l.prog) (w := w) (base := base) D_need_run T h_need_program h_need_make h_need_world
  have h_goneX := c_gone (Pg := l.prog) (w := w) (base := base) D_gone T c h_Going h_go
  have h_runX := c_runX (Pg := l.prog) (w := w) (base := base) D_run T h_need_run h_goneX h_outcome
  have h_run := c_run (Pg := l.prog) (w := w) (base := base) h_runX
  have h_eventsX := c_eventsX (Pg := l.prog) (w := w) (base := base) D_events T c h_need_run h_goneX
  have h_events := c_events (Pg := l.prog) (w := w) (base := base) h_eventsX
  have h_seen_of := c_seen_of (Pg := l.prog) (w := w) (base := base) D_seen_of T h_outcome
  have h_two_gone := c_two_gone (Pg := l.prog) (w := w) (base := base) D_two_gone T h_need_run h_need_world h_goneX.cl
  have h_seen_alike := c_seen_alike (Pg := l.prog) (w := w) (base := base) D_seen_alike T h_two_gone h_seen_of
  have h_beat_parted := c_beat_parted (Pg := l.prog) (w := w) (base := base) D_beat_parted T
  have h_path_at := c_path_at (Pg := l.prog) (w := w) (base := base) D_path_at T c
  have h_parted := c_parted (Pg := l.prog) (w := w) (base := base) D_parted T h_two_gone h_seen_of h_beat_parted h_path_at
  have h_uneven := c_uneven (Pg := l.prog) (w := w) (base := base) D_uneven T h_need_run h_worlds_of h_goneX.cl h_seen_of
  have h_law_cell := c_law_cell (Pg := l.prog) (w := w) (base := base) D__law_cell T
  have h_law_steps := c_law_stepsU (Pg := l.prog) (w := w) (base := base) D__law_steps D__law_step T h_law_cell
  have h_law_menu := c_law_menu (Pg := l.prog) (w := w) (base := base) D__law_menu T
  have h_law_program := c_law_program (Pg := l.prog) (w := w) (base := base) D__law_program T h_law_cell h_law_steps
  have h_law_world := c_law_world (Pg := l.prog) (w := w) (base := base) D__law_world T h_law_cell
  have h_law_make := c_law_make (Pg := l.prog) (w := w) (base := base) D__law_make T h_law_cell
  have h_law_fits := c_law_fits (Pg := l.prog) (w := w) (base := base) D__law_fits T TLx h_eventsX
  have h_law_at := c_law_at (Pg := l.prog) (w := w) (base := base) D__law_at T
  have h_law_beats_fit := c_law_beats_fit (Pg := l.prog) (w := w) (base := base) D__law_beats_fit T
  have h_law_events_right := c_law_events_right (Pg := l.prog) (w := w) (base := base) D__law_events_right T h_run h_events h_law_at h_law_beats_fit
  have h_law_put_right := c_law_put_right (Pg := l.prog) (w := w) (base := base) D__law_put_right T h_run h_law_fits
  have h_law_two_right := c_law_two_right (Pg := l.prog) (w := w) (base := base) D__law_two_right T h_run h_events h_law_fits h_parted h_seen_alike
  have h_law_uneven_right := c_law_uneven_right (Pg := l.prog) (w := w) (base := base) D__law_uneven_right T h_law_fits h_parted h_uneven
  exact c_law (Pg := l.prog) (w := w) (base := base) (fun_mk (st := s_law) l44 c44 k44) T h_run h_law_program h_law_menu h_law_world h_law_make h_law_cell h_law_fits h_law_events_right h_law_put_right h_law_two_right h_law_uneven_right
theorem walk {l : PySem.W.OpenLaw} {q : Program} {loose : List Str} {XP : (Str → Option Value) → Heap → Prop} {YP : World → Heap → Prop} {d : DefRec} {K : Params → PySem.W.Frag} (hn : l.most = some 63) (hdf : d.params.defaults = [])
    (hY : ∀ (w : World) (h : Heap), YP w h → (K w.params).In h)
    (F : ∀ (w : World) (mg : Str → Option Value) (fa : Addr) (h : Heap), (K w.params).In h → h.Ns mainGlobals mg → mg d.name = some (.ref fa) →
      ∃ fd : FuncData, (∀ (s : Shared) (u : Value), BindsTo s fd ⟨[u], []⟩ [("_law_script", u)]) ∧ ∀ base : Heap, (K w.params).In base → base.Ns mainGlobals mg → FnOk l.prog w (K w.params) mg base CX0 35 fa fd ["_law_script"] (spLaw (K w.params))) :
    PySem.W.WalkO q loose XP YP l.row.toRowW d [] (fun f vs => PySem.call f vs) :=
  L2.walk_of (n := 63) (k := 35) (x := "_law_script") (CX := fun _ => CX0) (sp := fun w => spLaw (K w.params)) hn (by decide) hdf ⟨rfl, by decide, by decide⟩ hY F (fun _ _ a ns hl _ hS => ⟨rfl, a, ns, rfl, hS, hl, fun _ => rfl⟩) fun _ _ _ _ _ z => z
end LW
section
open PySem PySem.W PyProof.Rows
set_option maxRecDepth 100000
set_option maxHeartbeats 0
open_top head_top for PySem.Challenge.rw_likebeats_k19_whole_runs_hold_together
end
open PySem PySem.W PyProof.Rows in
set_option maxRecDepth 100000 in
set_option maxHeartbeats 0 in
theorem PySem.Challenge.cw_likebeats_k19_whole_runs_hold_together_holds : PySem.Challenge.rw_likebeats_k19_whole_runs_hold_together.Holds :=
  head_top (by
  k_fill
  refine LW.walk (l := PySem.Challenge.rw_likebeats_k19_whole_runs_hold_together) rfl rfl (fun w h Y => PySem.W.kIn_of Y) ?F
  case F =>
    intro w mg fa h KX G hmg
    refine' LW.all_mk KX G hmg ?a0 ?l0 ?c0 ?k0 ?a1 ?l1 ?c1 ?k1 ?a2 ?l2 ?c2 ?k2 ?a3 ?l3 ?c3 ?k3 ?a4 ?l4 ?c4 ?k4 ?a5 ?l5 ?c5 ?k5 ?a6 ?l6 ?c6 ?k6 ?a7 ?l7 ?c7 ?k7 ?a8 ?l8 ?c8 ?k8 ?a9 ?l9 ?c9 ?k9 ?a10 ?l10 ?c10 ?k10 ?a11 ?l11 ?c11 ?k11 ?a12 ?l12 ?c12 ?k12 ?a13 ?l13 ?c13 ?k13 ?a14 ?l14 ?c14 ?k14 ?a15 ?l15 ?c15 ?k15 ?a16 ?l16 ?c16 ?k16 ?a17 ?l17 ?c17 ?k17 ?a18 ?l18 ?c18 ?k18 ?a19 ?l19 ?c19 ?k19 ?a20 ?l20 ?c20 ?k20 ?a21 ?l21 ?c21 ?k21 ?a22 ?l22 ?c22 ?k22 ?a23 ?l23 ?c23 ?k23 ?a24 ?l24 ?c24 ?k24 ?a25 ?l25 ?c25 ?k25 ?a26 ?l26 ?c26 ?k26 ?a27 ?l27 ?c27 ?k27 ?a28 ?l28 ?c28 ?k28 ?a29 ?l29 ?c29 ?k29 ?a30 ?l30 ?c30 ?k30 ?a31 ?l31 ?c31 ?k31 ?a32 ?l32 ?c32 ?k32 ?a33 ?l33 ?c33 ?k33 ?a34 ?l34 ?c34 ?k34 ?a35 ?l35 ?c35 ?k35 ?a36 ?l36 ?c36 ?k36 ?a37 ?l37 ?c37 ?k37 ?a38 ?l38 ?c38 ?k38 ?a39 ?l39 ?c39 ?k39 ?a40 ?l40 ?c40 ?k40 ?a41 ?l41 ?c41 ?k41 ?a42 ?l42 ?c42 ?k42 ?a43 ?l43 ?c43 ?k43 ?a44 ?l44 ?c44 ?k44 ?aC ?pg ?hd ?po ?sa ?mk ?kc ?na_nearness ?na_far ?na_wrong ?na_width ?na_long ?na_boxes ?na_tables ?na_said ?na_beats ?na_touches ?na_nearest ?na_went ?na_met ?a45 ?i45 ?l45 ?c45 ?k45 ?a46 ?i46 ?l46 ?c46 ?k46 ?a47 ?i47 ?l47 ?c47 ?k47 ?a48 ?i48 ?l48 ?c48 ?k48 ?a49 ?i49 ?l49 ?c49 ?k49 ?a50 ?i50 ?l50 ?c50 ?k50 ?a51 ?i51 ?l51 ?c51 ?k51 ?a52 ?i52 ?l52 ?c52 ?k52 ?a53 ?i53 ?l53 ?c53 ?k53 ?a54 ?i54 ?l54 ?c54 ?k54 ?a55 ?i55 ?l55 ?c55 ?k55 ?gTL ?xTL ?kTL ?bTL ?tTL ?iTL ?sTL ?z_len ?z_min ?z_max ?z_isinstance ?z_all ?z_repr ?z_int ?z_bool ?z_str ?z_tuple ?z_list ?z_range ?z_enumerate ?z_zip ?g_MOST_WORD ?g_MANY_BOXES ?g_MANY_TABLES ?g_MANY_CELLS ?g_MOST_STEPS ?g_MOST_DEEP ?g_MOST_HIDDEN ?g_MOST_EVENTS ?g_ROOM ?g_AN_ARM ?g_READ_BOX ?g_FORMS ?g_BOUNDS ?g_STOPS ?g_OF_TABLES ?g_MOST_MAKE ?L_dF ?K_dF ?w_dF ?L_dB ?K_dB ?w_dB ?fo0 ?fo1 ?fo2 ?fo3 ?fo4 ?fo5 ?fo6 ?fo7 ?fo8 ?fo9 ?fo10 ?fo11 ?fo12 ?fo13 ?fo14 ?fo15 ?fo16 ?fo17 ?bo0 ?T_b0 ?bo1 ?T_b1 ?bo2 ?T_b2 ?bo3 ?T_b3 ?bo4 ?T_b4 ?bo5 ?T_b5 ?T_st ?T_ot ?T_mm
    (case a0 => k_is)
    (case l0 => k_is)
    (case c0 => k_is)
    (case k0 => k_is)
    (case a1 => k_is)
    (case l1 => k_is)
    (case c1 => k_is)
    (case k1 => k_is)
    (case a2 => k_is)
    (case l2 => k_is)
    (case c2 => k_is)
    (case k2 => k_is)
    (case a3 => k_is)
    (case l3 => k_is)
    (case c3 => k_is)
    (case k3 => k_is)
    (case a4 => k_is)
    (case l4 => k_is)
    (case c4 => k_is)
    (case k4 => k_is)
    (case a5 => k_is)
    (case l5 => k_is)
    (case c5 => k_is)
    (case k5 => k_is)
    (case a6 => k_is)
    (case l6 => k_is)
    (case c6 => k_is)
    (case k6 => k_is)
    (case a7 => k_is)
    (case l7 => k_is)
    (case c7 => k_is)
    (case k7 => k_is)
    (case a8 => k_is)
    (case l8 => k_is)
    (case c8 => k_is)
    (case k8 => k_is)
    (case a9 => k_is)
    (case l9 => k_is)
    (case c9 => k_is)
    (case k9 => k_is)
    (case a10 => k_is)
    (case l10 => k_is)
    (case c10 => k_is)
    (case k10 => k_is)
    (case a11 => k_is)
    (case l11 => k_is)
    (case c11 => k_is)
    (case k11 => k_is)
    (case a12 => k_is)
    (case l12 => k_is)
    (case c12 => k_is)
    (case k12 => k_is)
    (case a13 => k_is)
    (case l13 => k_is)
    (case c13 => k_is)
    (case k13 => k_is)
    (case a14 => k_is)
    (case l14 => k_is)
    (case c14 => k_is)
    (case k14 => k_is)
    (case a15 => k_is)
    (case l15 => k_is)
    (case c15 => k_is)
    (case k15 => k_is)
    (case a16 => k_is)
    (case l16 => k_is)
    (case c16 => k_is)
    (case k16 => k_is)
    (case a17 => k_is)
    (case l17 => k_is)
    (case c17 => k_is)
    (case k17 => k_is)
    (case a18 => k_is)
    (case l18 => k_is)
    (case c18 => k_is)
    (case k18 => k_is)
    (case a19 => k_is)
    (case l19 => k_is)
    (case c19 => k_is)
    (case k19 => k_is)
    (case a20 => k_is)
    (case l20 => k_is)
    (case c20 => k_is)
    (case k20 => k_is)
    (case a21 => k_is)
    (case l21 => k_is)
    (case c21 => k_is)
    (case k21 => k_is)
    (case a22 => k_is)
    (case l22 => k_is)
    (case c22 => k_is)
    (case k22 => k_is)
    (case a23 => k_is)
    (case l23 => k_is)
    (case c23 => k_is)
    (case k23 => k_is)
    (case a24 => k_is)
    (case l24 => k_is)
    (case c24 => k_is)
    (case k24 => k_is)
    (case a25 => k_is)
    (case l25 => k_is)
    (case c25 => k_is)
    (case k25 => k_is)
    (case a26 => k_is)
    (case l26 => k_is)
    (case c26 => k_is)
    (case k26 => k_is)
    (case a27 => k_is)
    (case l27 => k_is)
    (case c27 => k_is)
    (case k27 => k_is)
    (case a28 => k_is)
    (case l28 => k_is)
    (case c28 => k_is)
    (case k28 => k_is)
    (case a29 => k_is)
    (case l29 => k_is)
    (case c29 => k_is)
    (case k29 => k_is)
    (case a30 => k_is)
    (case l30 => k_is)
    (case c30 => k_is)
    (case k30 => k_is)
    (case a31 => k_is)
    (case l31 => k_is)
    (case c31 => k_is)
    (case k31 => k_is)
    (case a32 => k_is)
    (case l32 => k_is)
    (case c32 => k_is)
    (case k32 => k_is)
    (case a33 => k_is)
    (case l33 => k_is)
    (case c33 => k_is)
    (case k33 => k_is)
    (case a34 => k_is)
    (case l34 => k_is)
    (case c34 => k_is)
    (case k34 => k_is)
    (case a35 => k_is)
    (case l35 => k_is)
    (case c35 => k_is)
    (case k35 => k_is)
    (case a36 => k_is)
    (case l36 => k_is)
    (case c36 => k_is)
    (case k36 => k_is)
    (case a37 => k_is)
    (case l37 => k_is)
    (case c37 => k_is)
    (case k37 => k_is)
    (case a38 => k_is)
    (case l38 => k_is)
    (case c38 => k_is)
    (case k38 => k_is)
    (case a39 => k_is)
    (case l39 => k_is)
    (case c39 => k_is)
    (case k39 => k_is)
    (case a40 => k_is)
    (case l40 => k_is)
    (case c40 => k_is)
    (case k40 => k_is)
    (case a41 => k_is)
    (case l41 => k_is)
    (case c41 => k_is)
    (case k41 => k_is)
    (case a42 => k_is)
    (case l42 => k_is)
    (case c42 => k_is)
    (case k42 => k_is)
    (case a43 => k_is)
    (case l43 => k_is)
    (case c43 => k_is)
    (case k43 => k_is)
    (case a44 => k_is)
    (case l44 => k_is)
    (case c44 => k_is)
    (case k44 => k_is)
    (case aC => k_is)
    (case pg => k_is)
    (case hd => k_is)
    (case po => k_is)
    (case sa => k_is)
    (case mk => k_is)
    (case kc => k_is)
    (case na_nearness => k_is)
    (case na_far => k_is)
    (case na_wrong => k_is)
    (case na_width => k_is)
    (case na_long => k_is)
    (case na_boxes => k_is)
    (case na_tables => k_is)
    (case na_said => k_is)
    (case na_beats => k_is)
    (case na_touches => k_is)
    (case na_nearest => k_is)
    (case na_went => k_is)
    (case na_met => k_is)
    (case a45 => k_is)
    (case i45 => k_is)
    (case l45 => k_is)
    (case c45 => k_is)
    (case k45 => k_is)
    (case a46 => k_is)
    (case i46 => k_is)
    (case l46 => k_is)
    (case c46 => k_is)
    (case k46 => k_is)
    (case a47 => k_is)
    (case i47 => k_is)
    (case l47 => k_is)
    (case c47 => k_is)
    (case k47 => k_is)
    (case a48 => k_is)
    (case i48 => k_is)
    (case l48 => k_is)
    (case c48 => k_is)
    (case k48 => k_is)
    (case a49 => k_is)
    (case i49 => k_is)
    (case l49 => k_is)
    (case c49 => k_is)
    (case k49 => k_is)
    (case a50 => k_is)
    (case i50 => k_is)
    (case l50 => k_is)
    (case c50 => k_is)
    (case k50 => k_is)
    (case a51 => k_is)
    (case i51 => k_is)
    (case l51 => k_is)
    (case c51 => k_is)
    (case k51 => k_is)
    (case a52 => k_is)
    (case i52 => k_is)
    (case l52 => k_is)
    (case c52 => k_is)
    (case k52 => k_is)
    (case a53 => k_is)
    (case i53 => k_is)
    (case l53 => k_is)
    (case c53 => k_is)
    (case k53 => k_is)
    (case a54 => k_is)
    (case i54 => k_is)
    (case l54 => k_is)
    (case c54 => k_is)
    (case k54 => k_is)
    (case a55 => k_is)
    (case i55 => k_is)
    (case l55 => k_is)
    (case c55 => k_is)
    (case k55 => k_is)
    (case gTL => k_is)
    (case xTL => k_exc)
    (case kTL => k_is)
    (case bTL => k_is)
    (case tTL => k_is)
    (case iTL => k_is)
    (case sTL => first | rfl | k_is)
    (case z_len => k_is)
    (case z_min => k_is)
    (case z_max => k_is)
    (case z_isinstance => k_is)
    (case z_all => k_is)
    (case z_repr => k_is)
    (case z_int => k_is)
    (case z_bool => k_is)
    (case z_str => k_is)
    (case z_tuple => k_is)
    (case z_list => k_is)
    (case z_range => k_is)
    (case z_enumerate => k_is)
    (case z_zip => k_is)
    (case g_MOST_WORD => k_is)
    (case g_MANY_BOXES => k_is)
    (case g_MANY_TABLES => k_is)
    (case g_MANY_CELLS => k_is)
    (case g_MOST_STEPS => k_is)
    (case g_MOST_DEEP => k_is)
    (case g_MOST_HIDDEN => k_is)
    (case g_MOST_EVENTS => k_is)
    (case g_ROOM => k_is)
    (case g_AN_ARM => k_is)
    (case g_READ_BOX => k_is)
    (case g_FORMS => k_is)
    (case g_BOUNDS => k_is)
    (case g_STOPS => k_is)
    (case g_OF_TABLES => k_is)
    (case g_MOST_MAKE => k_is)
    (case L_dF => k_is)
    (case K_dF => repeat (first | exact LW.kl_nil | refine LW.kl_cons rfl rfl ?_))
    (case w_dF => first | rfl | decide | k_is)
    (case L_dB => k_is)
    (case K_dB => repeat (first | exact LW.kl_nil | refine LW.kl_cons rfl rfl ?_))
    (case w_dB => first | rfl | decide | k_is)
    (case fo0 => k_is)
    (case fo1 => k_is)
    (case fo2 => k_is)
    (case fo3 => k_is)
    (case fo4 => k_is)
    (case fo5 => k_is)
    (case fo6 => k_is)
    (case fo7 => k_is)
    (case fo8 => k_is)
    (case fo9 => k_is)
    (case fo10 => k_is)
    (case fo11 => k_is)
    (case fo12 => k_is)
    (case fo13 => k_is)
    (case fo14 => k_is)
    (case fo15 => k_is)
    (case fo16 => k_is)
    (case fo17 => k_is)
    (case bo0 => k_is)
    (case T_b0 => k_is)
    (case bo1 => k_is)
    (case T_b1 => k_is)
    (case bo2 => k_is)
    (case T_b2 => k_is)
    (case bo3 => k_is)
    (case T_b3 => k_is)
    (case bo4 => k_is)
    (case T_b4 => k_is)
    (case bo5 => k_is)
    (case T_b5 => k_is)
    (case T_st => k_is)
    (case T_ot => k_is)
    (case T_mm => k_is))
