import PyProof.Rows.All
import Wide.All
import OpenK.AllK
import Wide.FinOn
import PySem.Challenge.RW_qd0023_05
open PySem PySem.W PyProof.Rows
set_option Elab.async false
set_option linter.all false
section -- Hh05
open PySem PySem.W PyProof.Rows
namespace Mine
def keep05 : List Nat := [1, 2, 3, 4, 5, 7, 8, 9, 10, 12, 13, 14, 15, 16, 17, 18, 19, 20, 21, 22, 23, 24, 25, 26, 27, 28, 29, 30, 31, 32, 33, 34, 35, 36, 37, 38, 39, 40, 41, 42, 43, 45, 46, 47, 48, 49, 50, 51, 52, 53, 54]
def view05 : Program := view PySem.Challenge.pw_qd0023_05 keep05
section
theorem keepLaw {l : OpenLaw} (_ : l.Holds → l.row.Holds) (h : l.Holds) : l.Holds := h
theorem lawRow {l : OpenLaw} (h : l.Holds) : l.row.Holds := by
  unfold OpenLaw.Holds at h
  exact h.2
theorem keepHead {r : OpenRow} (_ : Hook) (_ : r.toRowW.promised) (h : r.Holds) : r.Holds := h
local macro_rules | `(tactic| o_law) => `(tactic| refine keepLaw (fun y => ?_) ?hc)
local macro_rules | `(tactic| k_head) => `(tactic| x_head)
local macro_rules | `(tactic| o_head $H) => `(tactic| refine keepHead $H ?hw (lawRow (by assumption)))
set_option maxRecDepth 100000 in
set_option maxHeartbeats 8000000 in
open_top hd05 for PySem.Challenge.rw_qd0023_05
end
end Mine
end -- Hh05
section -- Hk05
open PySem PySem.W PyProof.Rows
namespace Mine
theorem addrs05 : ∀ P, [0, 1, 2, 3, 4, 5, 6, 7, 8, 9, 10, 11, 12, 13, 14, 15, 16, 17, 18, 19, 20, 21, 22, 23, 24, 25, 26, 27, 28, 29, 30, 31, 32, 33, 34, 35, 36, 37, 38, 39, 40, 41, 42, 43, 44, 45, 46, 47, 48, 49, 50, 53, 58, 59, 60, 61, 62, 63, 64, 65, 66, 67, 68, 69, 70, 71, 72, 73, 74, 75, 76, 79, 82, 87, 88, 89, 90, 91, 92, 93, 94, 95, 96, 97, 98, 99, 100, 101, 102, 103, 104, 107, 114, 115, 116, 119, 126, 127, 128, 131, 132, 133, 134, 135, 136, 137, 138, 139, 140, 141, 142, 143, 144, 145, 146, 147, 148, 149, 150, 151, 152, 153, 154, 155, 156, 157, 158, 159, 160, 161, 162, 163, 164, 165, 166, 167, 168, 169, 170, 171, 172, 173, 174, 175, 176, 177, 178, 179, 180, 181, 182, 183, 184, 185, 186, 187, 188, 189, 190, 191, 192, 193, 194, 195, 196, 197, 198, 199, 200, 201, 202, 203, 204, 205, 206, 207, 208, 209, 210, 211, 212, 213, 214, 215, 216, 217, 218, 219, 220, 221, 222, 223, 224, 225, 226, 227, 228, 229, 230, 231, 232, 233, 234, 235, 236, 237, 238, 239, 240, 241, 242, 243, 244, 245, 246, 247, 248, 249, 250, 251, 252, 253, 254, 255, 256, 257, 258, 259, 260, 261, 269, 270, 271, 272, 273, 274, 275, 276, 277, 278, 279, 280, 281, 282, 283, 284, 285, 286, 287, 288, 289, 290, 291, 292, 293, 294, 295, 296, 297, 298, 299, 300, 301, 302, 303, 304, 305, 306, 307, 308, 309, 310, 311, 312, 313, 314, 315, 316, 317, 318, 319, 320, 321, 322, 323, 324, 325, 326, 327, 328, 329, 330, 331, 332, 333, 334, 335, 336, 337, 338, 339, 340, 341, 342, 343, 344, 345, 346, 347, 348, 349, 350, 351, 352, 353, 354, 355, 356, 357, 358, 359, 360, 361, 362, 363, 364, 365, 368, 369, 370, 371, 372, 373, 374, 375, 376, 377, 378, 379, 380, 381, 382, 383, 384, 385, 386, 387, 388, 389, 390, 391, 392, 393, 394, 395, 396, 397, 398, 399, 400, 401, 402, 403, 404, 405, 406, 407, 408, 409, 410, 411, 412, 413, 414, 415, 416, 417, 418, 419, 420, 421, 422, 423, 424, 425, 426, 427, 428, 429, 430, 431, 432, 433, 434, 435, 436, 437, 438, 439, 440, 441, 442, 443, 444, 445, 446, 447, 448, 449, 450, 451, 452, 453, 454, 455, 456, 457, 458, 459, 460, 461, 462, 463, 464, 465, 466, 467, 468, 469, 470, 471, 472, 473, 474, 475, 476] = (hd05.heap_1 P).map (·.1) := fun _ => by kernel_rfl
set_option maxRecDepth 100000 in
set_option maxHeartbeats 8000000 in
noncomputable def hdw := fun (hs : PySem.Challenge.rw_qd0023_05.row.wellSaid = true) (hw : (PySem.Challenge.rw_qd0023_05.row.toRowW).promised) (x : _ ∧ _) => 
  PySem.W.holds_open (r := PySem.Challenge.rw_qd0023_05.row) (q := view05) (loose := []) (Xt := fun s => xlAt view05 [] s && recOk (RowW.records PySem.Challenge.rw_qd0023_05.row.toRowW) s) (XP := XL view05 []) (Yf := Hook.obs (kHook hd05.heap_1 [0, 1, 2, 3, 4, 5, 6, 7, 8, 9, 10, 11, 12, 13, 14, 15, 16, 17, 18, 19, 20, 21, 22, 23, 24, 25, 26, 27, 28, 29, 30, 31, 32, 33, 34, 35, 36, 37, 38, 39, 40, 41, 42, 43, 44, 45, 46, 47, 48, 49, 50, 53, 58, 59, 60, 61, 62, 63, 64, 65, 66, 67, 68, 69, 70, 71, 72, 73, 74, 75, 76, 79, 82, 87, 88, 89, 90, 91, 92, 93, 94, 95, 96, 97, 98, 99, 100, 101, 102, 103, 104, 107, 114, 115, 116, 119, 126, 127, 128, 131, 132, 133, 134, 135, 136, 137, 138, 139, 140, 141, 142, 143, 144, 145, 146, 147, 148, 149, 150, 151, 152, 153, 154, 155, 156, 157, 158, 159, 160, 161, 162, 163, 164, 165, 166, 167, 168, 169, 170, 171, 172, 173, 174, 175, 176, 177, 178, 179, 180, 181, 182, 183, 184, 185, 186, 187, 188, 189, 190, 191, 192, 193, 194, 195, 196, 197, 198, 199, 200, 201, 202, 203, 204, 205, 206, 207, 208, 209, 210, 211, 212, 213, 214, 215, 216, 217, 218, 219, 220, 221, 222, 223, 224, 225, 226, 227, 228, 229, 230, 231, 232, 233, 234, 235, 236, 237, 238, 239, 240, 241, 242, 243, 244, 245, 246, 247, 248, 249, 250, 251, 252, 253, 254, 255, 256, 257, 258, 259, 260, 261, 269, 270, 271, 272, 273, 274, 275, 276, 277, 278, 279, 280, 281, 282, 283, 284, 285, 286, 287, 288, 289, 290, 291, 292, 293, 294, 295, 296, 297, 298, 299, 300, 301, 302, 303, 304, 305, 306, 307, 308, 309, 310, 311, 312, 313, 314, 315, 316, 317, 318, 319, 320, 321, 322, 323, 324, 325, 326, 327, 328, 329, 330, 331, 332, 333, 334, 335, 336, 337, 338, 339, 340, 341, 342, 343, 344, 345, 346, 347, 348, 349, 350, 351, 352, 353, 354, 355, 356, 357, 358, 359, 360, 361, 362, 363, 364, 365, 368, 369, 370, 371, 372, 373, 374, 375, 376, 377, 378, 379, 380, 381, 382, 383, 384, 385, 386, 387, 388, 389, 390, 391, 392, 393, 394, 395, 396, 397, 398, 399, 400, 401, 402, 403, 404, 405, 406, 407, 408, 409, 410, 411, 412, 413, 414, 415, 416, 417, 418, 419, 420, 421, 422, 423, 424, 425, 426, 427, 428, 429, 430, 431, 432, 433, 434, 435, 436, 437, 438, 439, 440, 441, 442, 443, 444, 445, 446, 447, 448, 449, 450, 451, 452, 453, 454, 455, 456, 457, 458, 459, 460, 461, 462, 463, 464, 465, 466, 467, 468, 469, 470, 471, 472, 473, 474, 475, 476] addrs05)) (Ya := Hook.val (kHook hd05.heap_1 [0, 1, 2, 3, 4, 5, 6, 7, 8, 9, 10, 11, 12, 13, 14, 15, 16, 17, 18, 19, 20, 21, 22, 23, 24, 25, 26, 27, 28, 29, 30, 31, 32, 33, 34, 35, 36, 37, 38, 39, 40, 41, 42, 43, 44, 45, 46, 47, 48, 49, 50, 53, 58, 59, 60, 61, 62, 63, 64, 65, 66, 67, 68, 69, 70, 71, 72, 73, 74, 75, 76, 79, 82, 87, 88, 89, 90, 91, 92, 93, 94, 95, 96, 97, 98, 99, 100, 101, 102, 103, 104, 107, 114, 115, 116, 119, 126, 127, 128, 131, 132, 133, 134, 135, 136, 137, 138, 139, 140, 141, 142, 143, 144, 145, 146, 147, 148, 149, 150, 151, 152, 153, 154, 155, 156, 157, 158, 159, 160, 161, 162, 163, 164, 165, 166, 167, 168, 169, 170, 171, 172, 173, 174, 175, 176, 177, 178, 179, 180, 181, 182, 183, 184, 185, 186, 187, 188, 189, 190, 191, 192, 193, 194, 195, 196, 197, 198, 199, 200, 201, 202, 203, 204, 205, 206, 207, 208, 209, 210, 211, 212, 213, 214, 215, 216, 217, 218, 219, 220, 221, 222, 223, 224, 225, 226, 227, 228, 229, 230, 231, 232, 233, 234, 235, 236, 237, 238, 239, 240, 241, 242, 243, 244, 245, 246, 247, 248, 249, 250, 251, 252, 253, 254, 255, 256, 257, 258, 259, 260, 261, 269, 270, 271, 272, 273, 274, 275, 276, 277, 278, 279, 280, 281, 282, 283, 284, 285, 286, 287, 288, 289, 290, 291, 292, 293, 294, 295, 296, 297, 298, 299, 300, 301, 302, 303, 304, 305, 306, 307, 308, 309, 310, 311, 312, 313, 314, 315, 316, 317, 318, 319, 320, 321, 322, 323, 324, 325, 326, 327, 328, 329, 330, 331, 332, 333, 334, 335, 336, 337, 338, 339, 340, 341, 342, 343, 344, 345, 346, 347, 348, 349, 350, 351, 352, 353, 354, 355, 356, 357, 358, 359, 360, 361, 362, 363, 364, 365, 368, 369, 370, 371, 372, 373, 374, 375, 376, 377, 378, 379, 380, 381, 382, 383, 384, 385, 386, 387, 388, 389, 390, 391, 392, 393, 394, 395, 396, 397, 398, 399, 400, 401, 402, 403, 404, 405, 406, 407, 408, 409, 410, 411, 412, 413, 414, 415, 416, 417, 418, 419, 420, 421, 422, 423, 424, 425, 426, 427, 428, 429, 430, 431, 432, 433, 434, 435, 436, 437, 438, 439, 440, 441, 442, 443, 444, 445, 446, 447, 448, 449, 450, 451, 452, 453, 454, 455, 456, 457, 458, 459, 460, 461, 462, 463, 464, 465, 466, 467, 468, 469, 470, 471, 472, 473, 474, 475, 476] addrs05)) (YP := Hook.says (kHook hd05.heap_1 [0, 1, 2, 3, 4, 5, 6, 7, 8, 9, 10, 11, 12, 13, 14, 15, 16, 17, 18, 19, 20, 21, 22, 23, 24, 25, 26, 27, 28, 29, 30, 31, 32, 33, 34, 35, 36, 37, 38, 39, 40, 41, 42, 43, 44, 45, 46, 47, 48, 49, 50, 53, 58, 59, 60, 61, 62, 63, 64, 65, 66, 67, 68, 69, 70, 71, 72, 73, 74, 75, 76, 79, 82, 87, 88, 89, 90, 91, 92, 93, 94, 95, 96, 97, 98, 99, 100, 101, 102, 103, 104, 107, 114, 115, 116, 119, 126, 127, 128, 131, 132, 133, 134, 135, 136, 137, 138, 139, 140, 141, 142, 143, 144, 145, 146, 147, 148, 149, 150, 151, 152, 153, 154, 155, 156, 157, 158, 159, 160, 161, 162, 163, 164, 165, 166, 167, 168, 169, 170, 171, 172, 173, 174, 175, 176, 177, 178, 179, 180, 181, 182, 183, 184, 185, 186, 187, 188, 189, 190, 191, 192, 193, 194, 195, 196, 197, 198, 199, 200, 201, 202, 203, 204, 205, 206, 207, 208, 209, 210, 211, 212, 213, 214, 215, 216, 217, 218, 219, 220, 221, 222, 223, 224, 225, 226, 227, 228, 229, 230, 231, 232, 233, 234, 235, 236, 237, 238, 239, 240, 241, 242, 243, 244, 245, 246, 247, 248, 249, 250, 251, 252, 253, 254, 255, 256, 257, 258, 259, 260, 261, 269, 270, 271, 272, 273, 274, 275, 276, 277, 278, 279, 280, 281, 282, 283, 284, 285, 286, 287, 288, 289, 290, 291, 292, 293, 294, 295, 296, 297, 298, 299, 300, 301, 302, 303, 304, 305, 306, 307, 308, 309, 310, 311, 312, 313, 314, 315, 316, 317, 318, 319, 320, 321, 322, 323, 324, 325, 326, 327, 328, 329, 330, 331, 332, 333, 334, 335, 336, 337, 338, 339, 340, 341, 342, 343, 344, 345, 346, 347, 348, 349, 350, 351, 352, 353, 354, 355, 356, 357, 358, 359, 360, 361, 362, 363, 364, 365, 368, 369, 370, 371, 372, 373, 374, 375, 376, 377, 378, 379, 380, 381, 382, 383, 384, 385, 386, 387, 388, 389, 390, 391, 392, 393, 394, 395, 396, 397, 398, 399, 400, 401, 402, 403, 404, 405, 406, 407, 408, 409, 410, 411, 412, 413, 414, 415, 416, 417, 418, 419, 420, 421, 422, 423, 424, 425, 426, 427, 428, 429, 430, 431, 432, 433, 434, 435, 436, 437, 438, 439, 440, 441, 442, 443, 444, 445, 446, 447, 448, 449, 450, 451, 452, 453, 454, 455, 456, 457, 458, 459, 460, 461, 462, 463, 464, 465, 466, 467, 468, 469, 470, 471, 472, 473, 474, 475, 476] addrs05)) (N := 6128) x.1 (Hook.of (kHook hd05.heap_1 [0, 1, 2, 3, 4, 5, 6, 7, 8, 9, 10, 11, 12, 13, 14, 15, 16, 17, 18, 19, 20, 21, 22, 23, 24, 25, 26, 27, 28, 29, 30, 31, 32, 33, 34, 35, 36, 37, 38, 39, 40, 41, 42, 43, 44, 45, 46, 47, 48, 49, 50, 53, 58, 59, 60, 61, 62, 63, 64, 65, 66, 67, 68, 69, 70, 71, 72, 73, 74, 75, 76, 79, 82, 87, 88, 89, 90, 91, 92, 93, 94, 95, 96, 97, 98, 99, 100, 101, 102, 103, 104, 107, 114, 115, 116, 119, 126, 127, 128, 131, 132, 133, 134, 135, 136, 137, 138, 139, 140, 141, 142, 143, 144, 145, 146, 147, 148, 149, 150, 151, 152, 153, 154, 155, 156, 157, 158, 159, 160, 161, 162, 163, 164, 165, 166, 167, 168, 169, 170, 171, 172, 173, 174, 175, 176, 177, 178, 179, 180, 181, 182, 183, 184, 185, 186, 187, 188, 189, 190, 191, 192, 193, 194, 195, 196, 197, 198, 199, 200, 201, 202, 203, 204, 205, 206, 207, 208, 209, 210, 211, 212, 213, 214, 215, 216, 217, 218, 219, 220, 221, 222, 223, 224, 225, 226, 227, 228, 229, 230, 231, 232, 233, 234, 235, 236, 237, 238, 239, 240, 241, 242, 243, 244, 245, 246, 247, 248, 249, 250, 251, 252, 253, 254, 255, 256, 257, 258, 259, 260, 261, 269, 270, 271, 272, 273, 274, 275, 276, 277, 278, 279, 280, 281, 282, 283, 284, 285, 286, 287, 288, 289, 290, 291, 292, 293, 294, 295, 296, 297, 298, 299, 300, 301, 302, 303, 304, 305, 306, 307, 308, 309, 310, 311, 312, 313, 314, 315, 316, 317, 318, 319, 320, 321, 322, 323, 324, 325, 326, 327, 328, 329, 330, 331, 332, 333, 334, 335, 336, 337, 338, 339, 340, 341, 342, 343, 344, 345, 346, 347, 348, 349, 350, 351, 352, 353, 354, 355, 356, 357, 358, 359, 360, 361, 362, 363, 364, 365, 368, 369, 370, 371, 372, 373, 374, 375, 376, 377, 378, 379, 380, 381, 382, 383, 384, 385, 386, 387, 388, 389, 390, 391, 392, 393, 394, 395, 396, 397, 398, 399, 400, 401, 402, 403, 404, 405, 406, 407, 408, 409, 410, 411, 412, 413, 414, 415, 416, 417, 418, 419, 420, 421, 422, 423, 424, 425, 426, 427, 428, 429, 430, 431, 432, 433, 434, 435, 436, 437, 438, 439, 440, 441, 442, 443, 444, 445, 446, 447, 448, 449, 450, 451, 452, 453, 454, 455, 456, 457, 458, 459, 460, 461, 462, 463, 464, 465, 466, 467, 468, 469, 470, 471, 472, 473, 474, 475, 476] addrs05)) (Hook.keeps (kHook hd05.heap_1 [0, 1, 2, 3, 4, 5, 6, 7, 8, 9, 10, 11, 12, 13, 14, 15, 16, 17, 18, 19, 20, 21, 22, 23, 24, 25, 26, 27, 28, 29, 30, 31, 32, 33, 34, 35, 36, 37, 38, 39, 40, 41, 42, 43, 44, 45, 46, 47, 48, 49, 50, 53, 58, 59, 60, 61, 62, 63, 64, 65, 66, 67, 68, 69, 70, 71, 72, 73, 74, 75, 76, 79, 82, 87, 88, 89, 90, 91, 92, 93, 94, 95, 96, 97, 98, 99, 100, 101, 102, 103, 104, 107, 114, 115, 116, 119, 126, 127, 128, 131, 132, 133, 134, 135, 136, 137, 138, 139, 140, 141, 142, 143, 144, 145, 146, 147, 148, 149, 150, 151, 152, 153, 154, 155, 156, 157, 158, 159, 160, 161, 162, 163, 164, 165, 166, 167, 168, 169, 170, 171, 172, 173, 174, 175, 176, 177, 178, 179, 180, 181, 182, 183, 184, 185, 186, 187, 188, 189, 190, 191, 192, 193, 194, 195, 196, 197, 198, 199, 200, 201, 202, 203, 204, 205, 206, 207, 208, 209, 210, 211, 212, 213, 214, 215, 216, 217, 218, 219, 220, 221, 222, 223, 224, 225, 226, 227, 228, 229, 230, 231, 232, 233, 234, 235, 236, 237, 238, 239, 240, 241, 242, 243, 244, 245, 246, 247, 248, 249, 250, 251, 252, 253, 254, 255, 256, 257, 258, 259, 260, 261, 269, 270, 271, 272, 273, 274, 275, 276, 277, 278, 279, 280, 281, 282, 283, 284, 285, 286, 287, 288, 289, 290, 291, 292, 293, 294, 295, 296, 297, 298, 299, 300, 301, 302, 303, 304, 305, 306, 307, 308, 309, 310, 311, 312, 313, 314, 315, 316, 317, 318, 319, 320, 321, 322, 323, 324, 325, 326, 327, 328, 329, 330, 331, 332, 333, 334, 335, 336, 337, 338, 339, 340, 341, 342, 343, 344, 345, 346, 347, 348, 349, 350, 351, 352, 353, 354, 355, 356, 357, 358, 359, 360, 361, 362, 363, 364, 365, 368, 369, 370, 371, 372, 373, 374, 375, 376, 377, 378, 379, 380, 381, 382, 383, 384, 385, 386, 387, 388, 389, 390, 391, 392, 393, 394, 395, 396, 397, 398, 399, 400, 401, 402, 403, 404, 405, 406, 407, 408, 409, 410, 411, 412, 413, 414, 415, 416, 417, 418, 419, 420, 421, 422, 423, 424, 425, 426, 427, 428, 429, 430, 431, 432, 433, 434, 435, 436, 437, 438, 439, 440, 441, 442, 443, 444, 445, 446, 447, 448, 449, 450, 451, 452, 453, 454, 455, 456, 457, 458, 459, 460, 461, 462, 463, 464, 465, 466, 467, 468, 469, 470, 471, 472, 473, 474, 475, 476] addrs05)) (fun s e => xl_of s (Bool.and_eq_true_iff.mp e).1) XL.keeps (by rfl) (by rfl) (by rfl) (fun s e => recFacts_of (Bool.and_eq_true_iff.mp e).2) (by rfl) hs (by decide +kernel) ⟨rfl, rfl, rfl, rfl, rfl, by decide +kernel⟩ hw x.2
theorem onlyWalk {H W A B C : Prop} (_ : H → W → A ∧ B → C) (b : B) : B := b
end Mine
end -- Hk05
section -- Exc
open PySem PySem.W PySem.Spec PySem.Calls PyProof.Rows
namespace Mine
/-- where the fault e stands: its object (class C, dict dx, first field a0), its newest traceback entry T and that entry's mark -/
def FAt (h B : Heap) (e C dx : Addr) (a0 fl : Value) : Prop :=
  ∃ vs sl T oT ts, h.get? e = some (⟨.ref C, some dx, .fields vs, sl⟩ : Obj) ∧ vs[0]? = some a0 ∧ vs[1]? = some (.ref T) ∧ B.get? T = none ∧ T ≠ e ∧ h.get? T = some oT ∧ oT.data = .fields ts ∧ ts[3]? = some fl
/-- the fault e over the frames l; B is what stays -/
def Fly (B : Heap) (l : List Env) (e C dx : Addr) (a0 fl : Value) (h : Heap) : Prop :=
  B.StaysIn h ∧ B.get? e = none ∧ h.FunFrames B l ∧ FAt h B e C dx a0 fl
section
variable {M : Model} {A : Around} {E : Value → Shared → Prop} {s : Shared} {B : Heap} {env : Env} {outer l : List Env} {L e C dx : Addr} {a0 : Value}
theorem entryD {vs : Array Value} {sl : Array (Option Value)} {head : Value} {hadNext : Bool} {Q : Unit → Shared → Prop}
    (hfr : A.frames = some (env :: outer)) (hl : s.heap.FunFrames B (env :: outer)) (hf : env.frame = some L)
    (he : s.heap.get? e = some ⟨.ref C, some dx, .fields vs, sl⟩) (hkb : B.StaysIn s.heap) (hen : B.get? e = none) (hsz : 1 < vs.size) (h0 : vs[0]? = some a0)
    (h : ∀ h', Fly B (env :: outer) e C dx a0 (rawInt L) h' → s.heap.UpToSlots h' → Q () { s with heap := h' }) :
    wpAny M A (do let a ← frameOf env; let pl ← entryPlaceOf L hadNext; let b ← EntryCells.newEntry head a .none (rawInt L) .none pl; setField (.ref e) 1 b) Q E s := by
  have hene : e ∉ (env :: outer).filterMap (·.frame) := fun hm => by
    obtain ⟨_, o, ho, hnf⟩ := hl.mem hm
    rw [he] at ho; injection ho with ho; subst ho; exact hnf vs rfl
  refine wpAny_bind (wpAny_frameOf_fun hfr hl hf fun h₁ hs₁ => ?_)
  refine wpAny_bind (wpAny_entryPlaceOf fun pl hpl => ?_)
  unfold EntryCells.newEntry newFields
  refine wpAny_bind (wpAny_newObj_type ?_ (hpl.sizeOk5 _ _ _ _ _))
  have he₁ : h₁.get? e = some ⟨.ref C, some dx, .fields vs, sl⟩ := (hs₁.2.1 e hene).trans he
  have kb₁ : B.StaysIn h₁ := fun b o hbo => (hs₁.2.1 b fun hm => by rw [(hl.mem hm).1] at hbo; cases hbo).trans (hkb b o hbo)
  have he₂ := Heap.get?_push_of_some (h := h₁) { cls := .type "traceback", dict := none, data := .fields ([head, .ref L, .none, rawInt L, .none] ++ (if pl.isEmpty then List.replicate 6 Value.none else pl)).toArray } he₁
  refine wpAny_setField he₂ rfl hsz (h _ ?_ ?_)
  all_goals
    have hTe : h₁.objs.size ≠ e := Nat.ne_of_gt (Heap.lt_size he₁)
    have keep : ∀ b o, b ≠ e → h₁.get? b = some o →
      ((h₁.push { cls := .type "traceback", dict := none, data := .fields ([head, .ref L, .none, rawInt L, .none] ++ (if pl.isEmpty then List.replicate 6 Value.none else pl)).toArray }).update e (Obj.mapFields (·.setIfInBounds 1 (Value.ref h₁.objs.size)))).get? b = some o :=
      fun b o hbe hb => by
        rw [Heap.get?_update_other _ _ (Ne.symm hbe)]
        exact Heap.get?_push_of_some _ hb
    have noRecord : ∀ b o, s.heap.get? b = some o → (∀ vs, o.data ≠ .fields vs) → b ≠ e := fun b o hb hnf q => by
      rw [q, he] at hb; injection hb with hb; subst hb; exact hnf vs rfl
  · have he₃ := Heap.get?_update_self (Obj.mapFields (·.setIfInBounds 1 (Value.ref h₁.objs.size))) he₂ rfl
    have hT₃ := (Heap.get?_update_other (h₁.push { cls := .type "traceback", dict := none, data := .fields ([head, .ref L, .none, rawInt L, .none] ++ (if pl.isEmpty then List.replicate 6 Value.none else pl)).toArray })
      (Obj.mapFields (·.setIfInBounds 1 (Value.ref h₁.objs.size))) (Ne.symm hTe)).trans (Heap.get?_push_size h₁ rfl)
    refine ⟨fun b o hbo => keep b o (fun q => by rw [q, hen] at hbo; cases hbo) (kb₁ b o hbo), hen, hl.of_keeps fun b o hb hnf => ?_, ?_⟩
    · obtain ⟨sl', hs⟩ := hs₁.2.2 b o hb
      exact ⟨_, keep b _ (noRecord b o hb hnf) hs, rfl⟩
    · exact ⟨_, _, h₁.objs.size, _, _, he₃, by rw [Array.getElem?_setIfInBounds_ne (by decide)]; exact h0, by simp [hsz], kb₁.fresh, hTe, hT₃, rfl, by first | (simp; done) | (rcases hpl with rfl | ⟨_, _, _, _, _, _, _, rfl⟩ <;> simp)⟩
  · intro b o hb hnf
    obtain ⟨sl', hs⟩ := hs₁.2.2 b o hb
    exact ⟨sl', keep b _ (noRecord b o hb hnf) hs⟩
/-- the mark is taken off -/
theorem landD {fl : Value} {Q : Unit → Shared → Prop} (hh : Fly B l e C dx a0 fl s.heap)
    (h : ∀ h', Fly B l e C dx a0 .none h' → s.heap.UpToSlots h' → Q () { s with heap := h' }) : wpAny M A (setFlight (.ref e) none) Q E s := by
  obtain ⟨hkb, hen, hl, vs, sl, T, oT, ts, he, h0, h1, hnT, hTe, hT, hdT, h3⟩ := hh
  have hsz3 : 3 < ts.size := (Array.getElem?_eq_some_iff.mp h3).1
  have other : ∀ b, b ≠ T → (s.heap.update T (Obj.mapFields (·.setIfInBounds 3 ((none : Option Addr).elim Value.none fun f => rawInt f)))).get? b = s.heap.get? b :=
    fun b hb => Heap.get?_update_other _ _ (Ne.symm hb)
  have noRecord : ∀ b o, s.heap.get? b = some o → (∀ vs, o.data ≠ .fields vs) → b ≠ T := fun b o hb hnf q => by
    rw [q, hT] at hb; injection hb with hb; subst hb; exact hnf ts hdT
  unfold setFlight
  refine wpAny_bind (wpAny_field he rfl h1 ?_)
  rw [if_pos (show (Value.ref T != Value.none) = true from by simp)]
  refine wpAny_setField hT hdT hsz3 (h _ ⟨fun b o hbo => (other b fun q => by rw [q, hnT] at hbo; cases hbo).trans (hkb b o hbo), hen,
    hl.of_keeps fun b o hb hnf => ⟨o, (other b (noRecord b o hb hnf)).trans hb, rfl⟩, ?_⟩ fun b o hb hnf => ⟨o.slots, (other b (noRecord b o hb hnf)).trans hb⟩)
  exact ⟨vs, sl, T, _, _, (other e (Ne.symm hTe)).trans he, h0, h1, hnT, hTe, Heap.get?_update_self _ hT (Obj.isFreed_of_fields (Obj.data_mapFields hdT _)), Obj.data_mapFields hdT _, by simp [hsz3]⟩
/-- a frame notes a fault that flies -/
theorem noteD {Q : Unit → Shared → Prop} (hfr : A.frames = some (env :: outer)) (hf : env.frame = some L) (hh : Fly B (env :: outer) e C dx a0 .none s.heap)
    (h : ∀ h', Fly B (env :: outer) e C dx a0 (rawInt L) h' → s.heap.UpToSlots h' → Q () { s with heap := h' }) : wpAny M A (noteFrame (.ref e) env) Q E s := by
  obtain ⟨hkb, hen, hl, vs, sl, T, oT, ts, he, h0, h1, hnT, hTe, hT, hdT, h3⟩ := hh
  unfold noteFrame
  simp only [hf]
  refine wpAny_bind (wpAny_field he rfl h1 ?_)
  rw [if_pos (show (Value.ref T != Value.none) = true from by simp)]
  refine wpAny_bind (wpAny_field hT hdT h3 ?_)
  rw [if_neg (show ¬ ((Value.none == rawInt L) = true) from by simp [rawInt])]
  refine wpAny_bind (wpAny_setField hT hdT (Array.getElem?_eq_some_iff.mp h3).1 ?_)
  have other : ∀ b, b ≠ T → (s.heap.update T (Obj.mapFields (·.setIfInBounds 3 Value.none))).get? b = s.heap.get? b := fun b hb => Heap.get?_update_other _ _ (Ne.symm hb)
  have noRecord : ∀ b o, s.heap.get? b = some o → (∀ vs, o.data ≠ .fields vs) → b ≠ T := fun b o hb hnf q => by
    rw [q, hT] at hb; injection hb with hb; subst hb; exact hnf ts hdT
  refine entryD hfr (hl.of_keeps fun b o hb hnf => ⟨o, (other b (noRecord b o hb hnf)).trans hb, rfl⟩) hf ((other e (Ne.symm hTe)).trans he)
    (fun b o hbo => (other b fun q => by rw [q, hnT] at hbo; cases hbo).trans (hkb b o hbo)) hen (Array.getElem?_eq_some_iff.mp h1).1 h0
    fun h' x1 x2 => h h' x1 fun b o hb hnf => x2 b o ((other b (noRecord b o hb hnf)).trans hb) hnf
/-- a frame that has noted it notes it no more -/
theorem noteAgainD {Q : Unit → Shared → Prop} (hf : env.frame = some L) (hh : Fly B l e C dx a0 (rawInt L) s.heap) (h : Q () s) : wpAny M A (noteFrame (.ref e) env) Q E s := by
  obtain ⟨hkb, hen, hl, vs, sl, T, oT, ts, he, h0, h1, hnT, hTe, hT, hdT, h3⟩ := hh
  unfold noteFrame
  simp only [hf]
  refine wpAny_bind (wpAny_field he rfl h1 ?_)
  rw [if_pos (show (Value.ref T != Value.none) = true from by simp)]
  refine wpAny_bind (wpAny_field hT hdT h3 ?_)
  rw [if_pos (show (rawInt L == rawInt L) = true from by simp)]
  exact wpAny_pure h
/-- the first frame that a new fault leaves -/
theorem leaveNewD {vs : Array Value} {sl : Array (Option Value)} {Q : Unit → Shared → Prop} (hfr : A.frames = some (env :: outer)) (hf : env.frame = some L) (hl : s.heap.FunFrames B (env :: outer))
    (he : s.heap.get? e = some ⟨.ref C, some dx, .fields vs, sl⟩) (hkb : B.StaysIn s.heap) (hen : B.get? e = none) (h0 : vs[0]? = some a0) (h1 : vs[1]? = some .none)
    (h : ∀ h', Fly B outer e C dx a0 .none h' → s.heap.UpToSlots h' → Q () { s with heap := h' }) : wpAny M A (leaving env (.ref e)) Q E s := by
  unfold leaving noteFrame
  simp only [hf]
  refine wpAny_bind (wpAny_bind (wpAny_field he rfl h1 ?_))
  rw [if_neg (by decide)]
  refine entryD hfr hl hf he hkb hen (Array.getElem?_eq_some_iff.mp h1).1 h0 fun h₁ x1 u1 => ?_
  refine landD x1 fun h₂ x2 u2 => ?_
  exact h h₂ ⟨x2.1, x2.2.1, x2.2.2.1.2.2, x2.2.2.2⟩ (u1.trans u2)
/-- a frame that a fault leaves that came from below -/
theorem leaveOnD {Q : Unit → Shared → Prop} (hfr : A.frames = some (env :: outer)) (hf : env.frame = some L) (hh : Fly B (env :: outer) e C dx a0 .none s.heap)
    (h : ∀ h', Fly B outer e C dx a0 .none h' → s.heap.UpToSlots h' → Q () { s with heap := h' }) : wpAny M A (leaving env (.ref e)) Q E s := by
  unfold leaving
  refine wpAny_bind (noteD hfr hf hh fun h₁ x1 u1 => ?_)
  refine landD x1 fun h₂ x2 u2 => ?_
  exact h h₂ ⟨x2.1, x2.2.1, x2.2.2.1.2.2, x2.2.2.2⟩ (u1.trans u2)
/-- the same where a loop of this frame has noted it -/
theorem leaveHeldD {Q : Unit → Shared → Prop} (hf : env.frame = some L) (hh : Fly B (env :: outer) e C dx a0 (rawInt L) s.heap)
    (h : ∀ h', Fly B outer e C dx a0 .none h' → s.heap.UpToSlots h' → Q () { s with heap := h' }) : wpAny M A (leaving env (.ref e)) Q E s := by
  unfold leaving
  refine wpAny_bind (noteAgainD hf hh ?_)
  refine landD hh fun h₂ x2 u2 => ?_
  exact h h₂ ⟨x2.1, x2.2.1, x2.2.2.1.2.2, x2.2.2.2⟩ u2
end
end Mine
end -- Exc
section -- Base
open PySem PySem.W PySem.Spec PySem.Calls PyProof.Rows
namespace Mine
/-- a call of the def at f, its arguments vs, from a def's frame -/
def CallAt (w : World) (f : Addr) (vs : List Value) (news : List (Addr × Obj)) (d u : Nat)
    (Post : Heap → Addr → (Str → Option Value) → Shared → (Value → Shared → Prop) → (Value → Shared → Prop) → Prop) : Prop :=
  ∀ (dp un : Nat) (gd : Option (List Code)) (cn : Str) (cs : Scope) (a : Addr) (ccd : Value) (cl : List (Str × Addr)) (outer : List Env) (A₀ : Around) (base h₀ : Heap) (L : Addr) (m mg mb : Str → Option Value) (mean : ExcName → Option Value) (s : Shared) (Q E : Value → Shared → Prop),
    Below A₀ base outer h₀ → Fr h₀ L s.heap m → (Mine.hd05.heap_1 w.params).In h₀ → News h₀ L s.heap news → Top Mine.view05 (looseW Mine.view05 []) mean mg mb h₀ → cs.kind = .function → dp + d < 900 → un + u < 9000 →
    Post h₀ L m s Q E → wpAny (model PySem.Challenge.rw_qd0023_05.row.prog w) (ktrTop dp un gd cn cs L a ccd cl outer) (call (.ref f) vs) Q E s
end Mine
end -- Base
section -- Fl
open PySem PySem.W PySem.Spec PySem.Calls PyProof.Rows
namespace Mine
/-- a fault that has left a callee: what the frame at L (its locals m, what stood at its entry h₀, its ledger news) still knows; l the frames, L's first -/
def Flown (h₀ : Heap) (L : Addr) (m : Str → Option Value) (news : List (Addr × Obj)) (l : List Env) (e C dx : Addr) (es : List DictEntry) (fl : Value) (h : Heap) : Prop :=
  ∃ B a0 n, (∀ b o, h₀.get? b = some o → b ∉ l.filterMap (·.frame) → B.get? b = some o) ∧ (∀ q ∈ news, B.get? q.1 = some q.2 ∧ h₀.get? q.1 = none ∧ q.1 ≠ L) ∧
    Fly B l e C dx a0 fl h ∧ B.get? dx = some (dictOf es n) ∧ h₀.get? dx = none ∧ dx ≠ L ∧ h₀.get? e = none ∧ e ≠ L ∧ h.Ns L m ∧ h₀.UpToSlots h
section
variable {M : Model} {A : Around} {E : Value → Shared → Prop} {s' : Shared} {base h₀ g h : Heap} {outer : List Env} {L L' a e C dx t : Addr} {m m' : Str → Option Value} {name : Str} {scope : Scope} {cd : Value} {cells : List (Str × Addr)} {Q : Unit → Shared → Prop} {news news' : List (Addr × Obj)} {es : List DictEntry} {n : Nat} {r : List Value} {sl : Array (Option Value)} {en : Env}
theorem upTrans {h₁ h₂ h₃ : Heap} (k : ∀ b o, h₁.get? b = some o → h₂.get? b = some o) (u : h₂.UpToSlots h₃) : h₁.UpToSlots h₃ := (Heap.UpToSlots.of_keeps k).trans u
theorem noneBack (k : ∀ b o, h₀.get? b = some o → g.get? b = some o) {b : Addr} (e : g.get? b = none) : h₀.get? b = none := kts_none k e
/-- the raise itself: the fault leaves the frame that made it -/
theorem flownNew (K : Below A base (en :: outer) g) (hL : en.frame = some L) (FG : Fr h₀ L g m) (F : Fr g L' h m') (N : News g L' h news')
    (he : (e, (⟨.ref C, some dx, .fields ⟨.ref t :: .none :: r⟩, sl⟩ : Obj)) ∈ news') (hd : (dx, dictOf es n) ∈ news') (hne : e ≠ dx) (hs : ∀ q ∈ news, q ∈ news' ∧ q.1 ≠ e) (hh : s'.heap = h)
    (hN : ∀ q ∈ news, q.1 ≠ L)
    (hQ : ∀ h', Flown h₀ L m news (en :: outer) e C dx es .none h' → Q () { s' with heap := h' }) (hk : scope.kind = .function := by rfl) :
    wpAny M (A.deeper (envOf name scope L' a cd)) (leaving (envOf name scope L' a cd) (.ref e)) Q E s' := by
  subst hh
  have K' := K.push (name := name) (a := a) (cd := cd) F hk
  have gn : ∀ {b : Addr} {o : Obj}, (b, o) ∈ news' → b ∉ (envOf name scope L' a cd :: en :: outer).filterMap (·.frame) := fun {b o} hb hm => by
    rcases kts_mem hm with z | z
    · exact (N _ hb).2.1 z
    · obtain ⟨o', ho', _⟩ := (K.frames.mem z).2
      have := (N _ hb).2.2
      rw [this] at ho'; cases ho'
  have hin : ∀ env ∈ (envOf name scope L' a cd :: en :: outer), ∀ b, env.frame = some b → b ∈ e :: (envOf name scope L' a cd :: en :: outer).filterMap (·.frame) := fun env he b hb => .tail _ (List.mem_filterMap.mpr ⟨env, he, hb⟩)
  refine leaveNewD (B := hideAll s'.heap (e :: (envOf name scope L' a cd :: en :: outer).filterMap (·.frame))) (a0 := .ref t) K'.stack rfl (funFrames_hide K'.frames hin) (N _ he).1 (fun b o q => of_hideAll _ q) (hideAll_none _ (.head _)) rfl rfl fun h' fly up => ?_
  have dne : dx ∉ e :: (envOf name scope L' a cd :: en :: outer).filterMap (·.frame) := fun hm => by
    rcases List.mem_cons.mp hm with z | z
    · exact hne z.symm
    · exact gn hd z
  have gL : ∀ {b : Addr} {o : Obj}, (b, o) ∈ news' → b ≠ L := fun {b o} hb z => by
    subst z
    obtain ⟨oL, _, _, hLg, _⟩ := FG.ns
    have := (N _ hb).2.2
    rw [hLg] at this; cases this
  refine hQ h' ⟨_, _, n, fun b o q nm => ?_, fun q hq => ?_, fly, hideAll_get _ (N _ hd).1 dne, noneBack FG.keep (N _ hd).2.2, gL hd, noneBack FG.keep (N _ he).2.2, gL he, (upTrans F.keep up).ns FG.ns, upTrans FG.keep (upTrans F.keep up)⟩
  · have q' := FG.keep b o q
    refine hideAll_get _ (F.keep b o q') fun hm => ?_
    rcases List.mem_cons.mp hm with z | z
    · rw [z, (N _ he).2.2] at q'; cases q'
    · rcases kts_mem z with y | y
      · rw [y, kts_self F] at q'; cases q'
      · exact nm y
  · obtain ⟨h1, h2⟩ := hs q hq
    refine ⟨hideAll_get _ (N q h1).1 fun hm => ?_, noneBack FG.keep (N q h1).2.2, hN q hq⟩
    rcases List.mem_cons.mp hm with z | z
    · exact h2 z
    · exact gn (o := q.2) h1 z
/-- it passes through a frame -/
theorem flownOn {env : Env} (hA : A.frames = some (en :: outer)) (hf : env.frame = some L') (K : (∀ b ∈ (en :: outer).filterMap (·.frame), ∃ o, g.get? b = some o)) (FG : Fr h₀ L g m) (hgL : g.get? L' = none)
    (R : Flown g L' m' news' (env :: en :: outer) e C dx es .none s'.heap) (hL : en.frame = some L) (hs : ∀ q ∈ news, q ∈ news') (hAd : (A.deeper env).frames = some (env :: en :: outer))
    (hQ : ∀ h', Flown h₀ L m news (en :: outer) e C dx es .none h' → Q () { s' with heap := h' }) :
    wpAny M (A.deeper env) (leaving env (.ref e)) Q E s' := by
  obtain ⟨B, a0, n, hB, hl, fly, hd, hd0, hdL, he0, heL, ns, up⟩ := R
  refine leaveOnD hAd hf fly fun h' fly' up' => ?_
  obtain ⟨oL, _, _, hLg, _⟩ := FG.ns
  refine hQ h' ⟨B, a0, n, fun b o q nm => hB b o (FG.keep b o q) fun hm => ?_, fun q hq => ⟨(hl q (hs q hq)).1, noneBack FG.keep (hl q (hs q hq)).2.1, fun z => ?_⟩, fly', hd, noneBack FG.keep hd0, fun z => ?_, noneBack FG.keep he0, fun z => ?_, (up.trans up').ns FG.ns, upTrans FG.keep (up.trans up')⟩
  · rw [List.filterMap_cons, hf] at hm
    rcases List.mem_cons.mp hm with z | z
    · have := FG.keep b o q; rw [z, hgL] at this; cases this
    · exact nm z
  · have := (hl q (hs q hq)).2.1; rw [z, hLg] at this; cases this
  · rw [z, hLg] at hd0; cases hd0
  · rw [z, hLg] at he0; cases he0
/-- a loop of the frame notes it -/
theorem flownNote {env : Env} {l : List Env} (hfr : A.frames = some (env :: l)) (hf : env.frame = some L) (R : Flown h₀ L m news (env :: l) e C dx es .none s'.heap)
    (hQ : ∀ h', Flown h₀ L m news (env :: l) e C dx es (rawInt L) h' → Q () { s' with heap := h' }) : wpAny M A (noteFrame (.ref e) env) Q E s' := by
  obtain ⟨B, a0, n, hB, hl, fly, hd, hd0, hdL, he0, heL, ns, up⟩ := R
  refine noteD hfr hf fly fun h' fly' up' => ?_
  exact hQ h' ⟨B, a0, n, hB, hl, fly', hd, hd0, hdL, he0, heL, up'.ns ns, up.trans up'⟩
/-- the mark goes -/
theorem flownLand {l : List Env} {fl : Value} (R : Flown h₀ L m news l e C dx es fl s'.heap)
    (hQ : ∀ h', Flown h₀ L m news l e C dx es .none h' → Q () { s' with heap := h' }) : wpAny M A (setFlight (.ref e) none) Q E s' := by
  obtain ⟨B, a0, n, hB, hl, fly, hd, hd0, hdL, he0, heL, ns, up⟩ := R
  refine landD fly fun h' fly' up' => ?_
  exact hQ h' ⟨B, a0, n, hB, hl, fly', hd, hd0, hdL, he0, heL, up'.ns ns, up.trans up'⟩
/-- it leaves a frame whose loop has noted it -/
theorem flownHeld {env : Env} (hf : env.frame = some L') (FG : Fr h₀ L g m) (hgL : g.get? L' = none)
    (R : Flown g L' m' news' (env :: en :: outer) e C dx es (rawInt L') s'.heap) (hs : ∀ q ∈ news, q ∈ news')
    (hQ : ∀ h', Flown h₀ L m news (en :: outer) e C dx es .none h' → Q () { s' with heap := h' }) :
    wpAny M A (leaving env (.ref e)) Q E s' := by
  obtain ⟨B, a0, n, hB, hl, fly, hd, hd0, hdL, he0, heL, ns, up⟩ := R
  refine leaveHeldD hf fly fun h' fly' up' => ?_
  obtain ⟨oL, _, _, hLg, _⟩ := FG.ns
  refine hQ h' ⟨B, a0, n, fun b o q nm => hB b o (FG.keep b o q) fun hm => ?_, fun q hq => ⟨(hl q (hs q hq)).1, noneBack FG.keep (hl q (hs q hq)).2.1, fun z => ?_⟩, fly', hd, noneBack FG.keep hd0, fun z => ?_, noneBack FG.keep he0, fun z => ?_, (up.trans up').ns FG.ns, upTrans FG.keep (up.trans up')⟩
  · rw [List.filterMap_cons, hf] at hm
    rcases List.mem_cons.mp hm with z | z
    · have := FG.keep b o q; rw [z, hgL] at this; cases this
    · exact nm z
  · have := (hl q (hs q hq)).2.1; rw [z, hLg] at this; cases this
  · rw [z, hLg] at hd0; cases hd0
  · rw [z, hLg] at he0; cases he0
end
end Mine
end -- Fl
section -- Ct
open PySem PySem.W PySem.Spec PySem.Calls PyProof.Rows
set_option maxRecDepth 100000
namespace Mine
/-- what a raise statement asks of the value it raises -/
def RaisableD (E : Value → Shared → Prop) (v : Value) (s₁ : Shared) : Prop :=
  ∃ a C dx a0 r sl nm q N bs bm hdct sn sub ab col dd k0 k1 k2 k3 k5 newId, v = .ref a ∧ s₁.heap.get? C = some (excClassObj nm q C N bs bm hdct sn sub ab col dd k0 k1 k2 k3 k5 newId) ∧ bm.contains (.type "BaseException") = true ∧
    s₁.heap.get? a = some ⟨.ref C, some dx, .fields ⟨a0 :: .none :: r⟩, sl⟩ ∧ E (.ref a) s₁
section
variable {M : Model} {A : Around} {E : Value → Shared → Prop} {s : Shared} {env : Env}
theorem RaiseD {x : Expr} {pos : Pos} {Q : Flow → Shared → Prop} (hh : A.handled = none) (h : wpAny M A (eval x env) (RaisableD E) E s) : wpAny M A (exec (.Raise (some x) none pos) env) Q E s := by
  show wpAny M A (do standAt pos; raiseStmt env (some (do let v ← eval x env; standAt pos; pure v)) none) Q E s
  refine wpAny_bind (wpAny_standAt ?_)
  unfold raiseStmt
  dsimp only
  refine wpAny_bind (wpAny_bind (wpAny_mono h (fun v s₁ h₁ => wpAny_bind (wpAny_standAt (wpAny_pure ?_))) fun _ _ x => x))
  obtain ⟨a, C, dx, a0, r, sl, nm, q, N, bs, bm, hdct, sn, sub, ab, col, dd, k0, k1, k2, k3, k5, newId, rfl, hC, hbase, he, hE⟩ := h₁
  have hcB : (Value.ref C :: bm).contains (.type "BaseException") = true := by rw [List.contains_cons, hbase, Bool.or_true]
  obtain ⟨hp, g, d, tk, os⟩ := s₁
  repeat (first | with_reducible refine wpAny_loadPart_at he ?_ | with_reducible refine wpAny_loadPart_at hC ?_ | (with_reducible refine wpAny_isSubtype_exc hC ?_; rw [hcB]) | wp_step)
  exact wpAny_raiseNew_none hh hE
variable {nm q : Str} {C N : Addr} {bs bm : List Value} {hdct : Bool} {sn : List Str} {sub : List Value} {ab : Bool} {col : Option Bool} {dd : Option Addr} {k0 k1 k2 k3 k5 : Option Value} {newId : String}
variable {nm' q' : Str} {C' N' : Addr} {bs' bm' : List Value} {hdct' : Bool} {sn' : List Str} {sub' : List Value} {ab' : Bool} {col' : Option Bool} {dd' : Option Addr} {k0' k1' k2' k3' k5' : Option Value} {newId' : String}
theorem excMatchesD {h : Heap} {g : Array GenState} {d : Drawn} {t : Nat} {os : OsState} {e : Addr} {oe : Obj} {Q : Bool → Shared → Prop} {b : Bool}
    (hC : h.get? C = some (excClassObj nm q C N bs bm hdct sn sub ab col dd k0 k1 k2 k3 k5 newId)) (hC' : h.get? C' = some (excClassObj nm' q' C' N' bs' bm' hdct' sn' sub' ab' col' dd' k0' k1' k2' k3' k5' newId'))
    (he : h.get? e = some oe) (hcls : oe.cls = .ref C) (hbase : bm'.contains (.type "BaseException") = true) (hb : (Value.ref C :: bm).contains (.ref C') = b)
    (hq : Q b ⟨h, g, d, t, os⟩) : wpAny M A (excMatches (.ref e) (.ref C')) Q E ⟨h, g, d, t, os⟩ := by
  have hcB : (Value.ref C' :: bm').contains (.type "BaseException") = true := by rw [List.contains_cons, hbase, Bool.or_true]
  have f := tc_notTuple
  unfold excMatches
  repeat (first | (with_reducible refine wpAny_loadPart_at he ?_; rw [hcls]) | with_reducible refine wpAny_loadPart_at hC' ?_ | (with_reducible refine wpAny_isSubtype_exc hC' ?_; rw [hcB]) | (with_reducible refine wpAny_isSubtype_exc hC ?_; rw [hb]) | wp_step)
  cases b <;> (wp_walk; exact hq)
end
section
variable {prog : Program} {w : World} {A₀ : Around} {E : Value → Shared → Prop} {s' : Shared} {base g : Heap} {outer : List Env} {L a e C dx : Addr} {m : Str → Option Value} {name : Str} {scope : Scope} {cd : Value}
  {n : Str} {b₀ : Stmt} {suite body : List Stmt} {pos np : Pos} {nmo : Option Str} {rest : List ExceptHandler} {Q : Flow → Shared → Prop} {news : List (Addr × Obj)} {KF : Frag} {es : List DictEntry} {fl : Value}
  {p : Program} {loose : List Str} {mean : ExcName → Option Value} {mg mb : Str → Option Value} {x : Str} {C' : Addr}
variable {nm q : Str} {N : Addr} {bs bm : List Value} {hdct : Bool} {sn : List Str} {sub : List Value} {ab : Bool} {col : Option Bool} {dd : Option Addr} {k0 k1 k2 k3 k5 : Option Value} {newId : String}
variable {nm' q' : Str} {N' : Addr} {bs' bm' : List Value} {hdct' : Bool} {sn' : List Str} {sub' : List Value} {ab' : Bool} {col' : Option Bool} {dd' : Option Addr} {k0' k1' k2' k3' k5' : Option Value} {newId' : String}
/-- the ground under the frame that catches -/
theorem groundD {h : Heap} {en : Env} (K : Below A₀ base outer g) (hf : en.frame = some L) (hgL : g.get? L = none) (hab : g.objs.size ≤ L) (R : Flown g L m news (en :: outer) e C dx es fl h) :
    ∃ g' vs sl n', KtsTurn (outer.filterMap (·.frame)) g g' ∧ Fr g' L h m ∧ News g' L h ((e, ⟨.ref C, some dx, .fields vs, sl⟩) :: (dx, dictOf es n') :: news) ∧ Below A₀ base outer g' ∧ h.get? e = some ⟨.ref C, some dx, .fields vs, sl⟩ := by
  obtain ⟨B, a0, n', hB, hl, fly, hd, hd0, hdL, he0, heL, ns, up⟩ := R
  have nf : ∀ {b : Addr} {o : Obj}, g.get? b = some o → b ∉ outer.filterMap (·.frame) → b ∉ (en :: outer).filterMap (·.frame) := fun {b o} e nm hm => by
    rw [List.filterMap_cons, hf] at hm
    rcases List.mem_cons.mp hm with z | z
    · rw [z, hgL] at e; cases e
    · exact nm z
  obtain ⟨T, S⟩ := kts_turn_at (h := h) (fs := outer.filterMap (·.frame)) (g := g)
    (fun b hb => by obtain ⟨_, o, ho, _⟩ := K.frames.mem hb; exact ⟨o, ho⟩)
    (fun b o e nm => fly.1 b o (hB b o e (nf e nm)))
    (fun b o e hm => by
      obtain ⟨_, o', ho', hd⟩ := K.frames.mem hm
      rw [e] at ho'; cases ho'
      exact up b o e hd)
  have hfly := fly.2.2.2
  obtain ⟨vs, sl, Tb, oT, ts, hoe, _⟩ := hfly
  refine ⟨_, vs, sl, n', T, ⟨ns, S, by rw [T.size]; exact hab⟩, fun p hp => ?_, ⟨K.stack, fun b o e => T.other b o (K.stays b o e) (fun hm => by
    rw [(K.frames.mem hm).1] at e; cases e), K.frames.of_keeps fun b o e _ => ?_⟩, hoe⟩
  · rcases List.mem_cons.mp hp with rfl | hp
    · exact ⟨hoe, heL, T.none_ _ he0⟩
    · rcases List.mem_cons.mp hp with rfl | hp
      · exact ⟨fly.1 _ _ hd, hdL, T.none_ _ hd0⟩
      · exact ⟨fly.1 _ _ (hl p hp).1, (hl p hp).2.2, T.none_ _ (hl p hp).2.1⟩
  · obtain ⟨sl', hs⟩ := T.up e
    exact ⟨_, hs, rfl⟩
abbrev ClsAt (K : Frag) (C : Addr) (bm : List Value) : Prop := ∃ nm q N bs hdct sn sub ab col dd k0 k1 k2 k3 k5 newId, K.lookup C = some (excClassObj nm q C N bs bm hdct sn sub ab col dd k0 k1 k2 k3 k5 newId)
/-- the frame that has a try notes the fault and takes its mark off -/
theorem tryD (K : Below A₀ base outer g) (R : Flown g L m news (envOf name scope L a cd :: outer) e C dx es .none s'.heap)
    (k : ∀ h', Flown g L m news (envOf name scope L a cd :: outer) e C dx es .none h' → wpAny (model prog w) (A₀.deeper (envOf name scope L a cd)) (handleBy (.ref e) (envOf name scope L a cd) rest) Q E { s' with heap := h' }) :
    wpAny (model prog w) (A₀.deeper (envOf name scope L a cd)) (noteFrame (.ref e) (envOf name scope L a cd))
      (fun _ s₂ => wpAny (model prog w) (A₀.deeper (envOf name scope L a cd)) (setFlight (.ref e) none) (fun _ s₃ =>
        wpAny (model prog w) (A₀.deeper (envOf name scope L a cd)) (handleBy (.ref e) (envOf name scope L a cd) rest) Q E s₃) E s₂) E s' := by
  refine flownNote (Around.frames_deeper K.stack) rfl R fun h₁ R₁ => ?_
  exact flownLand R₁ fun h₂ R₂ => k h₂ R₂
/-- a clause of another class -/
theorem missD (K : Below A₀ base outer g) (hgL : g.get? L = none) (hab : g.objs.size ≤ L) (R : Flown g L m news (envOf name scope L a cd :: outer) e C dx es .none s'.heap) (XB : KF.In base) (TB : Top p loose mean mg mb base)
    (ex : nsIn KF mainGlobals x = some (some (.ref C'))) (hC : ClsAt KF C bm) (hC' : ClsAt KF C' bm') (hbase : bm'.contains (.type "BaseException") = true) (hb : (Value.ref C :: bm).contains (.ref C') = false)
    (k : wpAny (model prog w) (A₀.deeper (envOf name scope L a cd)) (handleBy (.ref e) (envOf name scope L a cd) rest) Q E s')
    (hk : scope.kind = .function := by rfl) (hx : (envOf name scope L a cd).kindOf x = some .globalImplicit := by rfl) (hd : (x == ("__debug__" : Str)) = false := by decide) :
    wpAny (model prog w) (A₀.deeper (envOf name scope L a cd)) (handleBy (.ref e) (envOf name scope L a cd) (.ExceptHandler (some (.Name x np)) nmo body pos :: rest)) Q E s' := by
  obtain ⟨g', vs, sl, n', T', F', N', K', hoe⟩ := groundD K rfl hgL hab R
  obtain ⟨nm, q, N, bs, hdct, sn, sub, ab, col, dd, k0, k1, k2, k3, k5, newId, hC⟩ := hC
  obtain ⟨nm', q', N'', bs', hdct', sn', sub', ab', col', dd', k0', k1', k2', k3', k5', newId', hC'⟩ := hC'
  have X₅ : KF.In g' := XB.keeps K'.stays
  have P₅ : TopRead p loose mg mb g' := topRead_of (TB.keeps K'.stays)
  obtain ⟨hh, gg, dr, tk, os⟩ := s'
  refine wpAny_handleBy_cons (codeAny_handlers_test (name_K F' X₅ P₅ ex ?_ hk hx hd)) (by intro q; cases q)
  exact excMatchesD (F'.keep _ _ (X₅ _ _ hC)) (F'.keep _ _ (X₅ _ _ hC')) hoe rfl hbase hb k
/-- the clause of its class, that binds it -/
theorem hitD (K : Below A₀ base outer g) (hgL : g.get? L = none) (hab : g.objs.size ≤ L) (R : Flown g L m news (envOf name scope L a cd :: outer) e C dx es .none s'.heap) (XB : KF.In base) (TB : Top p loose mean mg mb base)
    (ex : nsIn KF mainGlobals x = some (some (.ref C'))) (hC : ClsAt KF C bm) (hC' : ClsAt KF C' bm') (hbase : bm'.contains (.type "BaseException") = true) (hb : (Value.ref C :: bm).contains (.ref C') = true)
    (k : ∀ h' g' vs sl n' tk, KtsTurn (outer.filterMap (·.frame)) g g' → Fr g' L h' (fun y => if y = n then some (.ref e) else m y) → News g' L h' ((e, ⟨.ref C, some dx, .fields vs, sl⟩) :: (dx, dictOf es n') :: news) → Below A₀ base outer g' → KF.In g' → Top p loose mean mg mb g' →
      wpAny (model prog w) ((A₀.deeper (envOf name scope L a cd)).mark (some (.ref e))) (execs (b₀ :: suite) (envOf name scope L a cd))
        (fun f s₄ => wpAny (model prog w) (A₀.deeper (envOf name scope L a cd)) (do bindName (envOf name scope L a cd) n .none; unbindBehindTheSuite (envOf name scope L a cd) n pos) (fun _ s₅ => Q f s₅) E s₄)
        (AsSuiteRaised (model prog w) ((A₀.deeper (envOf name scope L a cd)).mark (some (.ref e))) (envOf name scope L a cd) n pos (notedBy (model prog w) ((A₀.deeper (envOf name scope L a cd)).mark (some (.ref e))) (envOf name scope L a cd) (cameBackBy (model prog w) (A₀.deeper (envOf name scope L a cd)) (envOf name scope L a cd) E)))
        { s' with heap := h', toks := tk })
    (hk : scope.kind = .function := by rfl) (hlo : (envOf name scope L a cd).kindOf n = some .local := by rfl) (hx : (envOf name scope L a cd).kindOf x = some .globalImplicit := by rfl) (hd : (x == ("__debug__" : Str)) = false := by decide) :
    wpAny (model prog w) (A₀.deeper (envOf name scope L a cd)) (handleBy (.ref e) (envOf name scope L a cd) (.ExceptHandler (some (.Name x np)) (some n) (b₀ :: suite) pos :: rest)) Q E s' := by
  obtain ⟨g', vs, sl, n', T', F', N', K', hoe⟩ := groundD K rfl hgL hab R
  obtain ⟨nm, q, N, bs, hdct, sn, sub, ab, col, dd, k0, k1, k2, k3, k5, newId, hC⟩ := hC
  obtain ⟨nm', q', N'', bs', hdct', sn', sub', ab', col', dd', k0', k1', k2', k3', k5', newId', hC'⟩ := hC'
  have X₅ : KF.In g' := XB.keeps K'.stays
  have P₅ : TopRead p loose mg mb g' := topRead_of (TB.keeps K'.stays)
  obtain ⟨hh, gg, dr, tk, os⟩ := s'
  refine wpAny_handleBy_cons (codeAny_handlers_test (name_K F' X₅ P₅ ex ?_ hk hx hd)) (by intro q; cases q)
  refine excMatchesD (F'.keep _ _ (X₅ _ _ hC)) (F'.keep _ _ (X₅ _ _ hC')) hoe rfl hbase hb (codeAny_handlers_suite_as ?_)
  refine flownLand R fun h₆ R₆ => ?_
  obtain ⟨g₆, vs₆, sl₆, n₆, T₆, F₆, N₆, K₆, hoe₆⟩ := groundD K rfl hgL hab R₆
  refine stN F₆ N₆ (fun h₇ F₇ N₇ => ?_) hk hlo
  exact k h₇ g₆ vs₆ sl₆ n₆ _ T₆ F₇ N₇ K₆ (XB.keeps K₆.stays) (TB.keeps K₆.stays)
/-- the clause of its class, that binds nothing -/
theorem hitD0 (K : Below A₀ base outer g) (hgL : g.get? L = none) (hab : g.objs.size ≤ L) (R : Flown g L m news (envOf name scope L a cd :: outer) e C dx es .none s'.heap) (XB : KF.In base) (TB : Top p loose mean mg mb base)
    (ex : nsIn KF mainGlobals x = some (some (.ref C'))) (hC : ClsAt KF C bm) (hC' : ClsAt KF C' bm') (hbase : bm'.contains (.type "BaseException") = true) (hb : (Value.ref C :: bm).contains (.ref C') = true)
    (k : ∀ h' g' vs sl n' tk, KtsTurn (outer.filterMap (·.frame)) g g' → Fr g' L h' m → News g' L h' ((e, ⟨.ref C, some dx, .fields vs, sl⟩) :: (dx, dictOf es n') :: news) → Below A₀ base outer g' → KF.In g' → Top p loose mean mg mb g' →
      wpAny (model prog w) ((A₀.deeper (envOf name scope L a cd)).mark (some (.ref e))) (execs (b₀ :: suite) (envOf name scope L a cd)) Q E { s' with heap := h', toks := tk })
    (hE : PassesOwnAt (model prog w) ((A₀.deeper (envOf name scope L a cd)).mark (some (.ref e))) (A₀.deeper (envOf name scope L a cd)) (envOf name scope L a cd) E)
    (hk : scope.kind = .function := by rfl) (hx : (envOf name scope L a cd).kindOf x = some .globalImplicit := by rfl) (hd : (x == ("__debug__" : Str)) = false := by decide) :
    wpAny (model prog w) (A₀.deeper (envOf name scope L a cd)) (handleBy (.ref e) (envOf name scope L a cd) (.ExceptHandler (some (.Name x np)) none (b₀ :: suite) pos :: rest)) Q E s' := by
  obtain ⟨g', vs, sl, n', T', F', N', K', hoe⟩ := groundD K rfl hgL hab R
  obtain ⟨nm, q, N, bs, hdct, sn, sub, ab, col, dd, k0, k1, k2, k3, k5, newId, hC⟩ := hC
  obtain ⟨nm', q', N'', bs', hdct', sn', sub', ab', col', dd', k0', k1', k2', k3', k5', newId', hC'⟩ := hC'
  have X₅ : KF.In g' := XB.keeps K'.stays
  have P₅ : TopRead p loose mg mb g' := topRead_of (TB.keeps K'.stays)
  obtain ⟨hh, gg, dr, tk, os⟩ := s'
  refine wpAny_handleBy_cons (codeAny_handlers_test (name_K F' X₅ P₅ ex ?_ hk hx hd)) (by intro q; cases q)
  refine excMatchesD (F'.keep _ _ (X₅ _ _ hC)) (F'.keep _ _ (X₅ _ _ hC')) hoe rfl hbase hb (codeAny_handlers_suite ?_)
  refine flownLand R fun h₆ R₆ => ?_
  obtain ⟨g₆, vs₆, sl₆, n₆, T₆, F₆, N₆, K₆, hoe₆⟩ := groundD K rfl hgL hab R₆
  exact wpAny_passesOwnAt hE (k h₆ g₆ vs₆ sl₆ n₆ _ T₆ F₆ N₆ K₆ (XB.keeps K₆.stays) (TB.keeps K₆.stays))
end
end Mine
end -- Ct
section -- Sz
open PySem PySem.W PyProof.Rows
namespace Mine
/-- v has at most k bits -/
def Sz (k : Nat) (v : Int) : Prop := Builtin.Int.intBits v ≤ k
theorem szOf {k : Nat} {v : Int} (h : v.natAbs < 2 ^ k) : Sz k v := by
  unfold Sz Builtin.Int.intBits
  by_cases h0 : v.natAbs = 0
  · split
    · exact Nat.zero_le _
    · rename_i hne; exact absurd (by simpa using h0) (by simpa using hne)
  · split
    · exact Nat.zero_le _
    · have := (Nat.log2_lt h0).mpr h; omega
theorem szTo {k : Nat} {v : Int} (h : Sz k v) : v.natAbs < 2 ^ k := by
  unfold Sz Builtin.Int.intBits at h
  by_cases h0 : v.natAbs = 0
  · rw [h0]; exact Nat.two_pow_pos k
  · split at h
    · rename_i he; exact absurd (by simpa using he) h0
    · exact (Nat.log2_lt h0).mp (by omega)
theorem Sz.mono {k l : Nat} {v : Int} (h : Sz k v) (hl : k ≤ l) : Sz l v := Nat.le_trans h hl
theorem Sz.neg {k : Nat} {v : Int} (h : Sz k v) : Sz k (-v) := szOf (by rw [Int.natAbs_neg]; exact szTo h)
theorem Sz.abs {k : Nat} {v : Int} (h : Sz k v) : Sz k (if v < 0 then -v else v) := by split; exact h.neg; exact h
theorem Sz.mul {k l : Nat} {a b : Int} (h : Sz k a) (h' : Sz l b) : Sz (k + l) (a * b) := szOf (by
  rw [Int.natAbs_mul, Nat.pow_add]
  exact Nat.mul_lt_mul'' (szTo h) (szTo h'))
theorem Sz.mulH {a b : Int} (h : Sz 4500 a) (h' : Sz 4500 b) : Sz 9000 (a * b) := h.mul h'
theorem Sz.add {k : Nat} {a b : Int} (h : Sz k a) (h' : Sz k b) : Sz (k + 1) (a + b) := szOf (by
  have := Int.natAbs_add_le a b; have := szTo h; have := szTo h'
  rw [Nat.pow_succ]; omega)
theorem Sz.sub {k : Nat} {a b : Int} (h : Sz k a) (h' : Sz k b) : Sz (k + 1) (a - b) := by rw [Int.sub_eq_add_neg]; exact h.add h'.neg
theorem Sz.le {k : Nat} {a b : Int} (h : Sz k a) (h' : b.natAbs ≤ a.natAbs) : Sz k b := szOf (Nat.lt_of_le_of_lt h' (szTo h))
theorem Sz.mulOk {k l : Nat} {a b : Int} (h : Sz k a) (h' : Sz l b) (hk : k ≤ 9000) (hl : l ≤ 9000) : IntMulOk a b := by
  have e : (9000 : Nat) ≤ 2 ^ 20 := by decide
  exact IntMulOk.of_bits (Nat.le_trans h (Nat.le_trans hk e)) (Nat.le_trans h' (Nat.le_trans hl e))
theorem Sz.py {k : Nat} {x b : Int} (h : Sz k b) (hk : k ≤ 9000) : Builtin.divisionGoesByPylong x b = false := by
  apply PyProof.noPylong_of_log2
  by_cases h0 : b.natAbs = 0
  · rw [h0]; decide
  · refine (Nat.log2_lt h0).mpr (Nat.lt_of_lt_of_le (szTo h) (Nat.pow_le_pow_right (by decide) hk))
/-- the rim -/
def rim : Int := 10 ^ 1000
theorem rim_eq : (10 : Int) ^ Int.toNat 1000 = rim := rfl
theorem rim_pos : 0 < rim := Int.pow_pos (by decide)
theorem rim_sz : rim.natAbs ≤ 2 ^ 3322 := by
  unfold rim
  rw [Int.natAbs_pow]
  decide +kernel
theorem Sz.ofRim {v : Int} (h : ¬ rim ≤ (if v < 0 then -v else v)) : Sz 3322 v := szOf (by
  have h1 := rim_sz
  have h2 := rim_pos
  revert h1
  generalize (2 : Nat) ^ 3322 = z
  intro h1
  split at h <;> omega)
theorem szPow {n : Nat} (h : n ≤ 1000) : Sz 3323 ((10 : Int) ^ n) := szOf (by
  have h1 := rim_sz
  unfold rim at h1
  rw [Int.natAbs_pow] at h1 ⊢
  have h2 : (10 : Int).natAbs ^ n ≤ (10 : Int).natAbs ^ 1000 := Nat.pow_le_pow_right (by decide) h
  exact Nat.lt_of_le_of_lt (Nat.le_trans h2 h1) (Nat.pow_lt_pow_right (by decide) (by decide)))
theorem sz1 : Sz 1 1 := by unfold Sz; decide
theorem sz0 : Sz 0 0 := by unfold Sz; decide
theorem szSmall {v : Int} (h1 : -2 ^ 64 < v) (h2 : v < 2 ^ 64) : Sz 64 v := intBits_le_64 h1 h2
end Mine
end -- Sz
section -- Mk
open PySem PySem.W PySem.Spec PySem.Calls PyProof.Rows
set_option maxRecDepth 100000
set_option maxHeartbeats 4000000
namespace Mine
abbrev excBm : List Value := [.type "Exception", .type "BaseException", .type "object"]
abbrev excNew (C t : Addr) : Obj := { cls := .ref C, data := .fields #[.ref t, .none, .none, .none, .bool false, .none] }
abbrev tupNew (vs : List Value) : Obj := { cls := .type "tuple", data := .seq vs.toArray }
section
variable {w : World} {A : Around} {E : Value → Shared → Prop} {h : Heap} {g : Array GenState} {d : Drawn} {t : Nat} {os : OsState} {R : Result → Shared → Prop}
variable {nm q : Str} {C N f : Addr} {bs bm : List Value} {hdct : Bool} {sn : List Str} {sub : List Value} {ab : Bool} {col : Option Bool} {dd : Option Addr} {k0 k1 k2 k3 k5 : Option Value}
/-- what is asked of the class's line -/
structure ExcLine (bm : List Value) : Prop where
  b : bm.contains (.type "Exception") = true
  base : bm.contains (.type "BaseException") = true
  noA : bm.contains (.type "AttributeError") = false
  noN : bm.contains (.type "NameError") = false
theorem checkNew (B : ExcLine bm) {M : Model} {rest : List Value} {Q : Unit → Shared → Prop} (hC : h.get? C = some (excClassObj nm q C N bs bm hdct sn sub ab col dd k0 k1 k2 k3 k5 "Exception.__new__"))
    (hq : Q () ⟨h, g, d, t, os⟩) : wpAny M A (checkBuiltinCall "Exception.__new__" ⟨.ref C :: rest, []⟩) Q E ⟨h, g, d, t, os⟩ := by
  have F := PySem.F.excBase_Exception
  have hcont : (Value.ref C :: bm).contains (.type "Exception") = true := by rw [List.contains_cons, B.b, Bool.or_true]
  have hstar := F.noStar
  simp only [checkBuiltinCall, F.newKind, F.newSplit, F.newRow]
  repeat (first | refine wpAny_loadPart_at hC ?_ | (refine wpAny_isSubtype_exc hC ?_; rw [hcont]) | refine wpAny_staticBase_exc hC ?_ | refine wpAny_madeBy_exc hC ?_ | simp only [bne_self_eq_false, Bool.false_eq_true, if_false] | wp_step)
  exact hq
theorem runNew (B : ExcLine bm) {rest : List Value} (hC : h.get? C = some (excClassObj nm q C N bs bm hdct sn sub ab col dd k0 k1 k2 k3 k5 "Exception.__new__"))
    (hq : R (.ok (.ret (.ref (h.objs.size + 1)))) ⟨(h.push (tupNew rest)).push (excNew C h.objs.size), g, d, t, os⟩) (hrest : rest.length ≤ sizeLine) :
    codeAny (model PySem.Challenge.rw_qd0023_05.row.prog w) A (.builtin "Exception.__new__" ⟨.ref C :: rest, []⟩) R ⟨h, g, d, t, os⟩ := by
  have F := PySem.F.excBase_Exception
  have hends := F.ends
  have hcB : (Value.ref C :: bm).contains (.type "Exception") = true := by rw [List.contains_cons, B.b, Bool.or_true]
  have hcA : (Value.ref C :: bm).contains (.type "AttributeError") = false := by rw [List.contains_cons, B.noA]; rfl
  have hcN : (Value.ref C :: bm).contains (.type "NameError") = false := by rw [List.contains_cons, B.noN]; rfl
  refine codeAny_builtinAt F.entry ?_
  unfold Builtin.«BaseException.__new__»
  refine PySem.wpAt_bind ?_
  show PySem.wpAt _ _ _ (stack >>= _) _ _ _
  refine PySem.wpAt_bind (PySem.wpAt_stack fun p below => PySem.wpAt_of_wpAny ?_)
  wp_walk
  refine PySem.wpAt_of_wpAny ?_
  rw [F.owner]
  repeat (first | with_reducible refine wpAny_madeHere_exc F.canon hC ?_ | with_reducible refine wpAny_loadPart_at hC ?_ | (with_reducible refine wpAny_isSubtype_exc hC ?_; first | rw [hcB] | rw [hcA] | rw [hcN]) | wp_step)
  show R _ _
  rw [Heap.size_push]
  exact hq
theorem typeCallOwn (B : ExcLine bm) {K : Frag} (X : K.In h) {rest : List Value} {Q : Fin → Shared → Prop}
    (hC : h.get? C = some (excClassObj nm q C N bs bm hdct sn sub ab col dd k0 k1 k2 k3 k5 "Exception.__new__")) (hi : findIn K (.ref C) "__init__" = some (some (.ref f))) (hf : typeIn K (.ref f) = some (.type "function"))
    (hq : codeAny (model PySem.Challenge.rw_qd0023_05.row.prog w) A (.call (.ref f) ⟨.ref (h.objs.size + 1) :: rest, []⟩) (fun r s' => match r with | .ok (.ret v) => v = .none ∧ Q (.done (.ret (.ref (h.objs.size + 1)))) s' | .ok _ => False | .error e => E e s') ⟨(h.push (tupNew rest)).push (excNew C h.objs.size), g, d, t, os⟩)
    (hrest : rest.length ≤ sizeLine) :
    wpAny (model PySem.Challenge.rw_qd0023_05.row.prog w) A (Builtin.«type.__call__» ⟨.ref C :: rest, []⟩) Q E ⟨h, g, d, t, os⟩ := by
  have F := PySem.F.excBase_Exception
  repeat (first | with_reducible refine wpAny_loadPart_at hC ?_ | with_reducible refine wpAny_madeBy_exc hC ?_ | wp_step)
  refine codeAny_call_builtin_code (Code.quiet_builtin _ F.quiet) (checkNew B hC ?_)
  refine runNew B hC ?_ hrest
  show wpAny _ _ _ _ _ _
  have up : ∀ b o, h.get? b = some o → ((h.push (tupNew rest)).push (excNew C h.objs.size)).get? b = some o := fun b o e => Heap.get?_push_of_some _ (Heap.get?_push_of_some _ e)
  have hC₁ := up _ _ hC
  have X₁ : K.In ((h.push (tupNew rest)).push (excNew C h.objs.size)) := fun a o e => up _ _ (X a o e)
  have hget : ((h.push (tupNew rest)).push (excNew C h.objs.size)).get? (h.objs.size + 1) = some (excNew C h.objs.size) := by heap_get
  have hcC : (Value.ref C :: bm).contains (.ref C) = true := by simp
  have i1 := looks_findIn (M := model PySem.Challenge.rw_qd0023_05.row.prog w) X₁ hi
  have b1 := bind_fn (M := model PySem.Challenge.rw_qd0023_05.row.prog w) X₁ (.ref (h.objs.size + 1)) hf
  unfold isInstance
  repeat (first | with_reducible refine wpAny_loadPart_at hget ?_ | (with_reducible refine wpAny_isSubtype_exc hC₁ ?_; rw [hcC]) | with_reducible refine Looks.at i1 ?_ | with_reducible refine Looks.at b1 ?_ | wp_step)
  refine codeAny_mono hq fun r s' z => ?_
  rcases r with e | (v | _ | _ | _) <;> first | exact z | exact z.elim | skip
  obtain ⟨rfl, z⟩ := z
  exact wpAny_pure (wpAny_pure z)
theorem callExc (B : ExcLine bm) {K : Frag} (X : K.In h) {rest : List Value}
    (hC : h.get? C = some (excClassObj nm q C N bs bm hdct sn sub ab col dd k0 k1 k2 k3 k5 "Exception.__new__")) (hi : findIn K (.ref C) "__init__" = some (some (.ref f))) (hf : typeIn K (.ref f) = some (.type "function"))
    (hq : codeAny (model PySem.Challenge.rw_qd0023_05.row.prog w) (A.under (.builtin "type.__call__" ⟨.ref C :: rest, []⟩)) (.call (.ref f) ⟨.ref (h.objs.size + 1) :: rest, []⟩) (InitBack (h.objs.size + 1) R) ⟨(h.push (tupNew rest)).push (excNew C h.objs.size), g, d, t, os⟩)
    (hrest : rest.length ≤ sizeLine) : codeAny (model PySem.Challenge.rw_qd0023_05.row.prog w) A (.call (.ref C) ⟨rest, []⟩) R ⟨h, g, d, t, os⟩ := by
  have f1 := tc_lookup
  have f2 := tc_bind (.ref C)
  have hT : (⟨h, g, d, t, os⟩ : Shared).TypeIs (.ref C) "type" := ⟨_, hC, rfl⟩
  refine codeAny_of_tree ?_
  show wpAny _ _ (callAny (.ref C) _) _ _ _
  repeat (any_goals (first | assumption | with_reducible refine wpAny_loadPart_at hC ?_ | wp_step))
  refine ⟨rfl, ?_⟩
  refine codeAny_call_builtin_at (Code.quiet_builtin _ (by decide +kernel)) entry_typeCall (wpAny_check_type_call_sub hC (typeCallOwn B X hC hi hf (codeAny_mono hq fun r s' z => ?_) hrest))
  rcases r with e | (v | _ | _ | _) <;> exact z
end
section
variable {w : World} {A : Around} {K : Frag} {C f : Addr} {s : Shared} {h₀ : Heap} {L : Addr} {m : Str → Option Value} {news : List (Addr × Obj)} {R : Result → Shared → Prop}
variable {nm q : Str} {N : Addr} {bs bm : List Value} {hdct : Bool} {sn : List Str} {sub : List Value} {ab : Bool} {col : Option Bool} {dd : Option Addr} {k0 k1 k2 k3 k5 : Option Value}
theorem callExcK {rest : List Value} (F : Fr h₀ L s.heap m) (Ns : News h₀ L s.heap news) (X : K.In s.heap) (B : ExcLine bm)
    (hC : K.lookup C = some (excClassObj nm q C N bs bm hdct sn sub ab col dd k0 k1 k2 k3 k5 "Exception.__new__")) (hi : findIn K (.ref C) "__init__" = some (some (.ref f))) (hf : typeIn K (.ref f) = some (.type "function")) (hrest : rest.length ≤ sizeLine)
    (hq : ∀ e t h', Fr h₀ L h' m → News h₀ L h' ((e, excNew C t) :: (t, tupNew rest) :: news) → (∀ p ∈ news, p.1 < t) → t < e →
      codeAny (model PySem.Challenge.rw_qd0023_05.row.prog w) (A.under (.builtin "type.__call__" ⟨.ref C :: rest, []⟩)) (.call (.ref f) ⟨.ref e :: rest, []⟩) (InitBack e R) { s with heap := h' }) :
    codeAny (model PySem.Challenge.rw_qd0023_05.row.prog w) A (.call (.ref C) ⟨rest, []⟩) R s := by
  obtain ⟨hh, g, d, t, os⟩ := s
  refine callExc B X (X _ _ hC) hi hf (hq _ hh.objs.size _ ((F.push _).push _) ?_ (fun p hp => Heap.lt_size (Ns p hp).1) (Nat.lt_succ_self _)) hrest
  have := (Ns.push F (tupNew rest)).push (F.push _) (excNew C hh.objs.size)
  rwa [Heap.size_push] at this
end
end Mine
end -- Mk
section -- E3
open PySem PySem.W PySem.Spec PySem.Calls PyProof.Rows PySem.W.X
set_option maxRecDepth 100000
set_option maxHeartbeats 4000000
namespace Mine
def OneNew (h h' : Heap) (q : Addr) (o : Obj) : Prop := h'.get? q = some o ∧ h.get? q = none ∧ ∀ b x, h.get? b = some x → h'.get? b = some x
theorem oneNew {h h' : Heap} {q : Addr} {o : Obj} (D : Mem h h' [] [(q, o)]) : OneNew h h' q o := ⟨D.at 0 q o rfl, (D.nw _ (.head _)).2, fun b x e => D.keep b x e (by simp [away])⟩
section
variable {M : Model} {A : Around} {α : Type} {Q : α → Shared → Prop} {E : Value → Shared → Prop} {s : Shared} {t : Sem α}
theorem wk {d u : Nat} (h : wpAny M { handled := none, depth := d, frames := none, guards := none, units := u } t Q E s) (hh : A.handled = none) (hd : A.depth ≤ d) (hu : A.units ≤ u) : wpAny M A t Q E s :=
  fun Γ p hΓ => h Γ p ⟨hΓ.1.trans hh, Nat.le_trans hΓ.2.1 hd, fun _ e => (nomatch e), fun _ e => (nomatch e), Nat.le_trans hΓ.2.2.2.2 hu⟩
end
local macro_rules | `(tactic| x_close) => `(tactic| ((rename (∀ q h, OneNew _ h q _ → _) => hR); exact hR _ _ (oneNew (by assumption))))
theorem wdGet {w : World} {s : Shared} {e : Addr} {vs : Array Value} (X : (Mine.hd05.heap_1 w.params).In s.heap) (he : s.heap.get? e = some ⟨.ref 116, none, .fields vs, #[]⟩) {Q E : Value → Shared → Prop}
  (hret : ∀ q h, OneNew s.heap h q ⟨.type "method-wrapper", none, .fields #[.builtin "Exception.__init__", .ref e], #[]⟩ → Q (.ref q) { s with heap := h }) :
    wpAny (model PySem.Challenge.rw_qd0023_05.row.prog w) { handled := none, depth := 950, frames := none, guards := none, units := 9500 } (call (.builtin "wrapper_descriptor.__get__") [.builtin "Exception.__init__", .ref e, .ref 116]) Q E s := by
  x_run
theorem wdGet128 {w : World} {s : Shared} {e : Addr} {vs : Array Value} (X : (Mine.hd05.heap_1 w.params).In s.heap) (he : s.heap.get? e = some ⟨.ref 128, none, .fields vs, #[]⟩) {Q E : Value → Shared → Prop}
  (hret : ∀ q h, OneNew s.heap h q ⟨.type "method-wrapper", none, .fields #[.builtin "Exception.__init__", .ref e], #[]⟩ → Q (.ref q) { s with heap := h }) :
    wpAny (model PySem.Challenge.rw_qd0023_05.row.prog w) { handled := none, depth := 950, frames := none, guards := none, units := 9500 } (call (.builtin "wrapper_descriptor.__get__") [.builtin "Exception.__init__", .ref e, .ref 128]) Q E s := by
  x_run
end Mine
end -- E3
section -- E4
open PySem PySem.W PySem.Spec PySem.Calls PyProof.Rows PySem.W.X
set_option maxRecDepth 100000
set_option maxHeartbeats 4000000
namespace Mine
theorem wd_lookup : typeLookup (.type "wrapper_descriptor") "__get__" = pure (some (.builtin "wrapper_descriptor.__get__")) := by rw [typeLookup_type, builtinLookup_eq_fast]; kernel_rfl
theorem ei_type : typeOf (.builtin "Exception.__init__") = pure (.type "wrapper_descriptor") := by
  show builtinType _ = _; rw [builtinType_eq_fast]; kernel_rfl
section
variable {w : World} {A : Around} {E : Value → Shared → Prop} {h : Heap} {g : Array GenState} {d : Drawn} {t : Nat} {os : OsState}
abbrev mwObj (x : Addr) : Obj := ⟨.type "method-wrapper", none, .fields #[.builtin "Exception.__init__", .ref x], #[]⟩
theorem superGaB {so D x C : Addr} {l₀ l : List Value} {K : Frag} {tk : Tok} {Q : PySem.Fin → Shared → Prop}
    (hso : h.get? so = some { cls := .type "super", dict := none, data := .fields #[.ref D, .ref x, .ref C], slots := #[] }) (hno : Looks (model PySem.Challenge.rw_qd0023_05.row.prog w) h (opaqueClassAbove (.ref C)) none)
    (hC : Looks (model PySem.Challenge.rw_qd0023_05.row.prog w) h (mroOf (.ref C)) l₀) (hl : (l₀.dropWhile (· != .ref D)).drop 1 = l) (X : K.In h)
    (hf : alongIn K "__init__" l = some (some (.builtin "Exception.__init__"))) (hxC : x ≠ C)
    (hg : ∀ {Q' : Value → Shared → Prop}, (∀ q h', OneNew h h' q (mwObj x) → Q' (.ref q) ⟨h', g, d, t, os⟩) → wpAny (model PySem.Challenge.rw_qd0023_05.row.prog w) A (call (.builtin "wrapper_descriptor.__get__") [.builtin "Exception.__init__", .ref x, .ref C]) Q' E ⟨h, g, d, t, os⟩)
    (hq : ∀ q h', OneNew h h' q (mwObj x) → Q (.done (.ret (.ref q))) ⟨h', g, d, t, os⟩) :
    wpAny (model PySem.Challenge.rw_qd0023_05.row.prog w) A (Builtin.«super.__getattribute__» ⟨[.ref so, .str "__init__" tk], []⟩) Q E ⟨h, g, d, t, os⟩ := by
  have hlk := wd_lookup
  have hty := ei_type
  have hne : (Value.ref x == Value.ref C) = false := by simp [hxC]
  have hn : (("__init__" : Str) == ("__class__" : Str)) = false := by decide
  have hdt : ({ cls := .type "super", dict := none, data := .fields #[.ref D, .ref x, .ref C], slots := #[] } : Obj).data = .fields #[.ref D, .ref x, .ref C] := rfl
  have f0 : (#[.ref D, .ref x, .ref C] : Array Value)[0]? = some (.ref D) := rfl
  have f1 : (#[.ref D, .ref x, .ref C] : Array Value)[1]? = some (.ref x) := rfl
  have f2 : (#[.ref D, .ref x, .ref C] : Array Value)[2]? = some (.ref C) := rfl
  unfold Builtin.«super.__getattribute__»
  repeat (first
    | (with_reducible refine wpAny_field hso hdt f0 ?_) | (with_reducible refine wpAny_field hso hdt f1 ?_) | (with_reducible refine wpAny_field hso hdt f2 ?_)
    | (with_reducible refine ks_wpAny_notOpaque hno ?_)
    | (with_reducible refine Looks.at hC ?_; rw [hl])
    | (refine ks_forIn_along X (fun _ _ => rfl) rfl ?_ hf)
    | (with_reducible refine wpAny_of_eq hty ?_)
    | (with_reducible refine wpAny_of_eq hlk ?_)
    | (with_reducible refine hg ?_; intro q h' on)
    | (simp only [hn, hne, Bool.or_false, Bool.false_eq_true, if_false])
    | wp_step
    | dsimp only)
  all_goals exact hq _ _ (by assumption)
theorem getMethodSuperB {so D x C : Addr} {l₀ l : List Value} {K : Frag} {pl : Sem Bool} {Q : Value × List Value → Shared → Prop}
    (hso : h.get? so = some { cls := .type "super", dict := none, data := .fields #[.ref D, .ref x, .ref C], slots := #[] }) (hno : Looks (model PySem.Challenge.rw_qd0023_05.row.prog w) h (opaqueClassAbove (.ref C)) none)
    (hC : Looks (model PySem.Challenge.rw_qd0023_05.row.prog w) h (mroOf (.ref C)) l₀) (hl : (l₀.dropWhile (· != .ref D)).drop 1 = l) (X : K.In h)
    (hf : alongIn K "__init__" l = some (some (.builtin "Exception.__init__"))) (hxC : x ≠ C)
    (hg : ∀ {Q' E' : Value → Shared → Prop}, (∀ q h', OneNew h h' q (mwObj x) → Q' (.ref q) ⟨h', g, d, t + 1, os⟩) → wpAny (model PySem.Challenge.rw_qd0023_05.row.prog w) A.in1 (call (.builtin "wrapper_descriptor.__get__") [.builtin "Exception.__init__", .ref x, .ref C]) Q' E' ⟨h, g, d, t + 1, os⟩)
    (hq : ∀ q h', OneNew h h' q (mwObj x) → Q (.ref q, []) ⟨h', g, d, t + 1, os⟩) :
    wpAny (model PySem.Challenge.rw_qd0023_05.row.prog w) A (getMethod (.ref so) "__init__" pl) Q E ⟨h, g, d, t, os⟩ := by
  have hlk := F.ks_slot_super_ga.lookup
  have hcan := F.ks_canon_super_ga
  have hT : ∀ t', (⟨h, g, d, t', os⟩ : Shared).TypeIs (.ref so) "super" := fun _ => ⟨_, hso, rfl⟩
  unfold getMethod
  refine wpAny_bind (wpAny_specialOf (hT _) hlk ?_)
  show wpAny _ _ (if (Manifest.canonical "super.__getattribute__" != "object.__getattribute__") = true then _ else _) _ _ _
  rw [if_pos hcan]
  unfold getAttr getAttrBy
  refine wpAny_bind (wpAny_bind (wpAny_mkText (wpAny_holding (wpAny_bind (wpAny_typeOf (hT _) (wpAny_bind (wpAny_of_eq hlk ?_)))))))
  show wpAny _ _ (getAttrByItsOwn (.ref so) (.str "__init__" t) (.type "super") (.builtin "super.__getattribute__") true false) _ _ _
  unfold getAttrByItsOwn hookBefore callGetattribute boundAndCalled
  refine wpAny_bind (wpAny_of_eq (show (if onTheHeap (.type "super") then typeLookup (.type "super") "__getattr__" else pure none) = pure none from rfl) ?_)
  refine wpAny_bind (wpAny_attempt (wpAny_holding ?_))
  show wpAny _ _ (bindSpecial (.builtin "super.__getattribute__") (.ref so) >>= _) _ _ _
  refine wpAny_bind (wpAny_of_eq (F.ks_slot_super_ga.bind _) ?_)
  refine wpAny_mono (Q := fun v s' => ∃ q h', OneNew h h' q (mwObj x) ∧ v = .ref q ∧ s' = ⟨h', g, d, t + 1, os⟩) (E := fun _ _ => False)
    (wpAny_call_entry F.ks_slot_super_ga (hT _) F.ks_entry_super_ga (superGaB hso hno hC hl X hf hxC hg fun q h' on => ⟨_, rfl, q, h', on, rfl, rfl⟩) (F.ks_gaArgs_super _ _)) (fun v s' hv => ?_) fun _ _ z => z.elim
  obtain ⟨q, h', on, rfl, rfl⟩ := hv
  exact wpAny_pure (wpAny_pure (hq q h' on))
/-- Exception.__init__ through its method-wrapper -/
theorem callMw {mw x C N t₀ : Addr} {nm q : Str} {bs bm : List Value} {hdct : Bool} {sn : List Str} {sub : List Value} {ab : Bool} {col : Option Bool} {dd : Option Addr} {k0 k1 k2 k3 k5 : Option Value} {r : List Value} {dx : Option Addr} {sl : Array (Option Value)}
    {rest : List Value} {Q : Value → Shared → Prop} (hC : h.get? C = some (excClassObj nm q C N bs bm hdct sn sub ab col dd k0 k1 k2 k3 k5 "Exception.__new__"))
    (hm : h.get? mw = some (mwObj x)) (hx : h.get? x = some ⟨.ref C, dx, .fields ⟨.ref t₀ :: r⟩, sl⟩)
    (hrest : rest.length ≤ sizeLine)
    (hq : Q .none ⟨(h.push (tupNew rest)).update x (Obj.mapFields (·.setIfInBounds 0 (Value.ref h.objs.size))), g, d, t, os⟩) :
    wpAny (model PySem.Challenge.rw_qd0023_05.row.prog w) A (call (.ref mw) rest) Q E ⟨h, g, d, t, os⟩ := by
  have F := PySem.F.excBase_Exception
  have hshort := F.noStar
  have hx' : (h.push (tupNew rest)).get? x = some ⟨.ref C, dx, .fields ⟨.ref t₀ :: r⟩, sl⟩ := Heap.get?_push_of_some _ hx
  refine wpAny_call (codeAny_of_tree ?_)
  show wpAny _ _ (callAny (.ref mw) _) _ _ _
  unfold callAny
  refine wpAny_bind (wpAny_load hm ?_)
  dsimp only
  have run : ∀ A', wpAny (model PySem.Challenge.rw_qd0023_05.row.prog w) A' (Builtin.«BaseException.__init__» ⟨.ref x :: rest, []⟩) (fun fin s' => match fin with
      | PySem.Fin.done f => (match (Except.ok f : Result) with | .ok (.ret v) => Q v s' | .ok _ => False | .error e => E e s')
      | PySem.Fin.again c' => c'.quiet = true ∧ codeAny (model PySem.Challenge.rw_qd0023_05.row.prog w) A c' (fun r s' => match r with | .ok (.ret v) => Q v s' | .ok _ => False | .error e => E e s') s') E ⟨h, g, d, t, os⟩ := by
    intro A'
    unfold Builtin.«BaseException.__init__»
    repeat (first | (with_reducible refine wpAny_newTuple ?_ hrest) | (with_reducible refine wpAny_field hx' rfl rfl ?_) | (with_reducible refine wpAny_setField hx' rfl (by simp) ?_) | wp_step)
    exact hq
  simp only [checkBoundCall]
  repeat (first | (with_reducible refine wpAny_loadPart_at hx ?_) | with_reducible refine wpAny_loadPart_at hC ?_ | wp_step)
  refine wpAny_onRaise ?_
  rw [show ∀ (a b : String) (n : Nat) (l : List Str), l = [] → Bind.check ⟨.positional, "*", "Exception", .self, [⟨"args", .varPos, false⟩]⟩ a b n l = pure () from
    fun a b n l hl => hl ▸ check_star_args _ _ _ _ _ _]
  · exact wpAny_pure (wpAny_pure ⟨plainId_quiet F.init.plain _, codeAny_builtin F.initEntry (run _)⟩)
  · rfl
end
end Mine
end -- E4
section -- E5
open PySem PySem.W PySem.Spec PySem.Calls PyProof.Rows PySem.W.X Builtin Builtin.ObjectAttr Builtin.Getset_descriptor
set_option maxRecDepth 100000
set_option maxHeartbeats 4000000
namespace Mine
section
variable {prog : Program} {w : World} {A : Around} {E : Value → Shared → Prop} {s : Shared} {K : Frag} {x C dx L : Addr} {h₀ : Heap} {m : Str → Option Value} {news : List (Addr × Obj)} {name : Str} {v : Value} {vs : Array Value} {sl : Array (Option Value)} {cd : ClassData}
/-- what the class of a fault answers when an attribute is stored -/
structure Stores (K : Frag) (C : Addr) (cd : ClassData) (name : Str) : Prop where
  set : findIn K (.ref C) "__setattr__" = some (some (.builtin "object.__setattr__"))
  cls : clsIn K C = some cd
  dict : cd.hasDict = true
  ref : ∀ self, refuseLoop self "__setattr__" cd.mro = pure ()
  obj : mroIn K C (.type "object") = some true
  tk : takerIn K C name = some none
theorem excOsa {ox : Obj} {od : Option Obj} {tk : Tok} {R : Result → Shared → Prop} (X : K.In s.heap) (I : InstAt s.heap x ox C od) (S : Stores K C cd name)
    (h : ∀ b, wpAny (model prog w) A.in1 (storeInOwnDict (.ref x) (.ref C) (.str name tk) name v b)
      (fun fin s' => match fin with | .done f => R (.ok f) s' | .again c' => c'.quiet = true ∧ codeAny (model prog w) A c' R s') (fun e s' => R (.error e) s') s) :
    codeAny (model prog w) A (.call (.builtin "object.__setattr__") ⟨[.ref x, .str name tk, v], []⟩) R s := by
  have SF := PySem.F.store_object
  have sub : Looks (model prog w) s.heap (isInstance (.ref x) (.type "object")) true := I.type.andThen (looks_mroIn X S.obj)
  refine codeAny_call_builtin SF.slot.plain SF.entry (@check_slot (model prog w) _ _ s "object.__setattr__" "object" "__setattr__" (.ref x) [.str name tk, v] [] _ SF.kind SF.split sub (SF.args (.ref x) (.str name tk) v) ?_)
  obtain ⟨attr, ha, hr⟩ := Option.bind_eq_some_iff.mp S.tk
  have hm : Looks (model prog w) s.heap (mroOf (.ref C)) cd.mro := (looks_clsIn X S.cls).andThen .now
  have L3 : Looks (model prog w) s.heap (storeTaker? attr) none := by
    cases attr with
    | none => cases hr; exact .now
    | some a =>
      obtain ⟨b, hb, hb2⟩ := Option.map_eq_some_iff.mp hr
      refine (looks_takesIn X hb).andThen ?_
      cases b <;> first | exact .now | cases hb2
  rw [osa_eq, refuse_eq]
  refine wpAny_bind (wpAny_bind (I.type.here (wpAny_bind (hm.here ?_))))
  rw [S.ref]
  refine wpAny_pure (wpAny_bind (I.type.here (wpAny_bind ((looks_findIn X ha).here (wpAny_bind (L3.here ?_))))))
  exact h _
theorem setMoreK {es : List DictEntry} {n : Nat} {Q : Unit → Shared → Prop} (F : Fr h₀ L s.heap m) (X₀ : K.In h₀) (N : News h₀ L s.heap ((x, ⟨.ref C, some dx, .fields vs, sl⟩) :: (dx, dictOf es n) :: news)) (S : Stores K C cd name)
    (hl : (getL name es).isSome = true) (hne : x ≠ dx) (hnd : ∀ p ∈ news, p.1 ≠ dx) (hz : es.length ≤ 100)
    (h : ∀ h' tk' key, Fr h₀ L h' m → News h₀ L h' ((x, ⟨.ref C, some dx, .fields vs, sl⟩) :: (dx, dictOf (putL name (PyData.keyHash w.params name) (.str name key) v es) (putN name es n)) :: news) → Q () { s with heap := h', toks := tk' }) :
    wpAny (model prog w) A (setAttr (.ref x) name v) Q E s := by
  have X := X₀.keeps F.keep
  have I : InstAt s.heap x ⟨.ref C, some dx, .fields vs, sl⟩ C (some (dictOf es n)) := ⟨(N _ (.head _)).1, rfl, rfl, (N _ (.tail _ (.head _))).1⟩
  refine set_plain X I S.set (excOsa (s := { s with toks := s.toks + 1 }) X I S fun b => ?_)
  have e := putName_dict name (PyData.keyHash w.params name) (.str name (s.toks + 1)) v es n
  obtain ⟨U1, U2⟩ := news_upd (pre := [(x, ⟨.ref C, some dx, .fields vs, sl⟩)]) (post := news) (f := Obj.putName name (PyData.keyHash w.params name) (.str name (s.toks + 1)) v) F N (by simpa using hne) hnd e rfl
  have D := (N (dx, dictOf es n) (.tail _ (.head _))).1
  have D' := (U2 (dx, _) (.tail _ (.head _))).1
  have hx := I.at_
  refine wpAny_bind (wpAny_pure (wpAny_bind (wpAny_bind (wpAny_loadPart hx (wpAny_bind (Looks.here (s := { s with toks := s.toks + 1 }) (looks_clsIn X S.cls) ?_))))))
  rw [S.dict]
  refine wpAny_pure (a := some dx) (wpAny_bind (wpAny_pure (wpAny_bind ?_)))
  unfold nsSet
  refine wpAny_bind (wpAny_bind (wpAny_askSetting (wpAny_pure (wpAny_bind (wpAny_mkText (wpAny_bind (wpAny_loadPart D ?_)))))))
  dsimp only
  have c : (!es.toArray.any (·.key.isStr name) && es.toArray.any (·.refKey)) = false := by
    unfold getL at hl
    simp only [List.any_toArray]
    split at hl
    · rename_i en he
      rw [List.any_eq_true.mpr ⟨en, List.mem_of_find?_eq_some he, by simpa using List.find?_some he⟩]; rfl
    · split at hl
      · cases hl
      · rename_i z; rw [Bool.not_eq_true] at z; rw [z, Bool.and_false]
  rw [aRefKeyMayBeTheName_at, c]
  refine wpAny_updatePart D ?_
  refine wpAny_bind (wpAny_lookBehind D' (pastItsLine_dict (by
    rw [List.size_toArray, sizeLine_eq]
    have : ∀ l : List DictEntry, (putL name (PyData.keyHash w.params name) (.str name (s.toks + 1)) v l).length ≤ l.length + 1 := by
      intro l
      induction l with
      | nil => simp [putL]
      | cons a r ih => simp only [putL]; split <;> simp_all
    have := this es
    omega)) ?_)
  exact wpAny_pure (h _ _ _ U1 U2)
theorem setNewK {Q : Unit → Shared → Prop} (F : Fr h₀ L s.heap m) (X₀ : K.In h₀) (N : News h₀ L s.heap ((x, ⟨.ref C, none, .fields vs, sl⟩) :: news)) (S : Stores K C cd name) (hne : ∀ p ∈ news, p.1 ≠ x)
    (h : ∀ dx h' tk' key, Fr h₀ L h' m → News h₀ L h' ((x, ⟨.ref C, some dx, .fields vs, sl⟩) :: (dx, dictOf [⟨PyData.keyHash w.params name, .str name key, v⟩] 1) :: news) → x ≠ dx → (∀ p ∈ news, p.1 ≠ dx) → Q () { s with heap := h', toks := tk' }) :
    wpAny (model prog w) A (setAttr (.ref x) name v) Q E s := by
  have X := X₀.keeps F.keep
  have I : InstAt s.heap x ⟨.ref C, none, .fields vs, sl⟩ C none := ⟨(N _ (.head _)).1, rfl, rfl, trivial⟩
  refine set_plain X I S.set (excOsa (s := { s with toks := s.toks + 1 }) X I S fun b => ?_)
  have hx := I.at_
  have hxd : x ≠ s.heap.objs.size := Nat.ne_of_lt (Heap.lt_size hx)
  have hnd : ∀ p ∈ news, p.1 ≠ s.heap.objs.size := fun p hp => Nat.ne_of_lt (Heap.lt_size (N p (.tail _ hp)).1)
  have N1 := N.push F emptyDict
  have F1 := F.push emptyDict
  obtain ⟨F2, N2⟩ := news_upd (d := x) (o := ⟨.ref C, none, .fields vs, sl⟩) (o' := ⟨.ref C, some s.heap.objs.size, .fields vs, sl⟩) (pre := [(s.heap.objs.size, emptyDict)]) (post := news) (f := fun o => { o with dict := some s.heap.objs.size }) F1 N1 (by simpa using Ne.symm hxd) hne rfl rfl
  have e := putName_dict name (PyData.keyHash w.params name) (.str name (s.toks + 1)) v [] 0
  obtain ⟨F3, N3⟩ := news_upd (d := s.heap.objs.size) (o := emptyDict) (pre := []) (post := (x, ⟨.ref C, some s.heap.objs.size, .fields vs, sl⟩) :: news) (f := Obj.putName name (PyData.keyHash w.params name) (.str name (s.toks + 1)) v) F2 N2 (fun _ h => nomatch h)
    (fun p hp => by rcases List.mem_cons.mp hp with rfl | hp; exact hxd; exact hnd p hp) e rfl
  have D := (N2 (s.heap.objs.size, emptyDict) (.head _)).1
  have D' := (N3 (s.heap.objs.size, _) (.head _)).1
  refine wpAny_bind (wpAny_pure (wpAny_bind (wpAny_bind (wpAny_loadPart hx (wpAny_bind (Looks.here (s := { s with toks := s.toks + 1 }) (looks_clsIn X S.cls) ?_))))))
  rw [S.dict]
  refine wpAny_bind (wpAny_alloc (wpAny_bind (wpAny_update (Heap.get?_push_of_some emptyDict hx) ?_)))
  refine wpAny_pure (a := some s.heap.objs.size) (wpAny_bind (wpAny_pure (wpAny_bind ?_)))
  unfold nsSet
  refine wpAny_bind (wpAny_bind (wpAny_askSetting (wpAny_pure (wpAny_bind (wpAny_mkText (wpAny_bind (wpAny_loadPart D ?_)))))))
  refine wpAny_updatePart D ?_
  refine wpAny_bind (wpAny_lookBehind D' (pastItsLine_dict (by
    rw [List.size_toArray, sizeLine_eq]
    simp [putL])) ?_)
  refine wpAny_pure (h s.heap.objs.size _ _ (s.toks + 1) F3 ?_ hxd hnd)
  intro p hp
  rcases List.mem_cons.mp hp with rfl | hp
  · exact N3 _ (.tail _ (.head _))
  · rcases List.mem_cons.mp hp with rfl | hp
    · exact N3 _ (.head _)
    · exact N3 _ (.tail _ (.tail _ hp))
end
end Mine
end -- E5
section -- E6
open PySem PySem.W PySem.Spec PySem.Calls PyProof.Rows PySem.W.X
set_option maxRecDepth 100000
set_option maxHeartbeats 4000000
namespace Mine
section
variable {w : World} {A : Around} {E : Value → Shared → Prop} {s : Shared} {K : Frag} {x C D so mw L : Addr} {h₀ : Heap} {m : Str → Option Value} {news : List (Addr × Obj)} {vs : Array Value} {sl : Array (Option Value)}
theorem newsOne {h' : Heap} {q : Addr} {o : Obj} (F : Fr h₀ L s.heap m) (N : News h₀ L s.heap news) (on : OneNew s.heap h' q o) : Fr h₀ L h' m ∧ News h₀ L h' ((q, o) :: news) ∧ ∀ p ∈ news, p.1 ≠ q := by
  obtain ⟨h1, h2, h3⟩ := on
  obtain ⟨oL, es, ep, hL, r⟩ := F.ns
  refine ⟨F.keeps h3, fun p hp => ?_, fun p hp e => ?_⟩
  · rcases List.mem_cons.mp hp with rfl | hp
    · refine ⟨h1, fun e => ?_, ?_⟩
      · have e' : q = L := e
        rw [e', hL] at h2; cases h2
      · cases z : h₀.get? q with
        | none => rfl
        | some o' => rw [F.keep _ _ z] at h2; cases h2
    · exact ⟨h3 _ _ (N p hp).1, (N p hp).2⟩
  · have := (N p hp).1; rw [e, h2] at this; cases this
theorem methSuperB {pl : Sem Bool} {Q : Value × List Value → Shared → Prop} {cd : ClassData} (F : Fr h₀ L s.heap m) (X₀ : K.In h₀) (N : News h₀ L s.heap news) (hso : (so, ks_superObj D x C) ∈ news)
    (hx : (x, (⟨.ref C, none, .fields vs, #[]⟩ : Obj)) ∈ news) (ho : nsIn K cStatics "thirdparty.any" = some none) (hc : clsIn K C = some cd) (hm : alongIn K "__init__" ((cd.mro.dropWhile (· != .ref D)).drop 1) = some (some (.builtin "Exception.__init__"))) (hKC : (K.lookup C).isSome = true)
    (hg : K.In s.heap → s.heap.get? x = some ⟨.ref C, none, .fields vs, #[]⟩ → ∀ {Q' E' : Value → Shared → Prop}, (∀ q h', OneNew s.heap h' q (mwObj x) → Q' (.ref q) { s with heap := h', toks := s.toks + 1 }) → wpAny (model PySem.Challenge.rw_qd0023_05.row.prog w) A.in1 (call (.builtin "wrapper_descriptor.__get__") [.builtin "Exception.__init__", .ref x, .ref C]) Q' E' { s with toks := s.toks + 1 })
    (h : ∀ q h', Fr h₀ L h' m → News h₀ L h' ((q, mwObj x) :: news) → (∀ p ∈ news, p.1 ≠ q) → Q (.ref q, []) { s with heap := h', toks := s.toks + 1 }) :
    wpAny (model PySem.Challenge.rw_qd0023_05.row.prog w) A (getMethod (.ref so) "__init__" pl) Q E s := by
  have X : K.In s.heap := X₀.keeps F.keep
  have hxC : x ≠ C := by
    rintro rfl
    obtain ⟨o, ho⟩ := Option.isSome_iff_exists.mp hKC
    have := (N _ hx).2.2
    rw [X₀ _ _ ho] at this; cases this
  have e := (N _ hso).1
  obtain ⟨hh, g, d, t, os⟩ := s
  refine getMethodSuperB (l₀ := cd.mro) (l := (cd.mro.dropWhile (· != .ref D)).drop 1) e (looks_opaque X ho) ?_ rfl X hm hxC (hg X (N _ hx).1) fun q h' on => ?_
  · exact fun A Q E s k q => wpAny_bind ((looks_clsIn X hc) A _ E s k (wpAny_pure q))
  · obtain ⟨F', N', l'⟩ := newsOne (s := ⟨hh, g, d, t, os⟩) F N on
    exact h q h' F' N' l'
theorem callMwK {N t₀ : Addr} {nm q : Str} {bs bm : List Value} {hdct : Bool} {sn : List Str} {sub : List Value} {ab : Bool} {col : Option Bool} {dd : Option Addr} {k0 k1 k2 k3 k5 : Option Value}
    {rest : List Value} {Q : Value → Shared → Prop} (F : Fr h₀ L s.heap m) (X₀ : K.In h₀) (Ns : News h₀ L s.heap ((mw, mwObj x) :: (x, excNew C t₀) :: news))
    (hC : K.lookup C = some (excClassObj nm q C N bs bm hdct sn sub ab col dd k0 k1 k2 k3 k5 "Exception.__new__")) (hne : ∀ p ∈ news, p.1 ≠ x) (hrest : rest.length ≤ sizeLine)
    (h : ∀ t' h', Fr h₀ L h' m → News h₀ L h' ((x, excNew C t') :: news) → Q .none { s with heap := h' }) :
    wpAny (model PySem.Challenge.rw_qd0023_05.row.prog w) A (call (.ref mw) rest) Q E s := by
  have X : K.In s.heap := X₀.keeps F.keep
  have hm := (Ns _ (.head _)).1
  have hx := (Ns _ (.tail _ (.head _))).1
  have N1 : News h₀ L s.heap ((x, excNew C t₀) :: news) := fun p hp => Ns p (.tail _ hp)
  have N2 := N1.push F (tupNew rest)
  have F2 := F.push (tupNew rest)
  have hxd : x ≠ s.heap.objs.size := Nat.ne_of_lt (Heap.lt_size hx)
  obtain ⟨F3, N3⟩ := news_upd (d := x) (pre := [(s.heap.objs.size, tupNew rest)]) (post := news) (f := Obj.mapFields (·.setIfInBounds 0 (Value.ref s.heap.objs.size))) (o' := excNew C s.heap.objs.size) F2 N2 (by simpa using Ne.symm hxd) hne rfl rfl
  obtain ⟨hh, g, d, t, os⟩ := s
  exact callMw (r := [.none, .none, .none, .bool false, .none]) (X _ _ hC) hm hx hrest (h _ _ F3 fun p hp => N3 p (.tail _ hp))
theorem keeps_mw {M : Model} {q x : Addr} (h : Heap) (e : h.get? q = some (mwObj x)) : ∃ k, (k = Keeper.frame ∨ k = Keeper.machine ∨ k = Keeper.boundFrame) ∧ Looks M h (keeperOf (.ref q)) k :=
  ⟨.machine, .inr (.inl rfl), (Looks.ld (part := none) e).andThen (Looks.of_pure rfl)⟩
theorem callWith_mw {M : Model} {env : Env} {pos : Pos} {q : Addr} {first : List Value} {e : Expr} {rest : List Expr} {Q : Value → Shared → Prop}
    (h : wpAny M A (spliced (backTo pos (starEach (e :: rest) env))) (fun vs s₁ => s₁.heap.get? q = some (mwObj x) ∧ wpAny M A (call (.ref q) (first ++ vs)) Q E s₁) E s)
    (he : starEach (e :: rest) env = (false, eval e env) :: starEach rest env := by rfl) (hplain : (backTo pos (starEach rest env)).any (·.1) = false := by rfl) :
    wpAny M A (callWith pos (.ref q) first (backTo pos (starEach (e :: rest) env)) []) Q E s := by
  rw [he] at h ⊢
  exact callWith_of (by show ((false || (backTo pos (starEach rest env)).any (·.1)) || false) = false; rw [hplain]; rfl) keeps_mw (evalArgs_plain h)
end
end Mine
end -- E6
section -- E8
open PySem PySem.W PySem.Spec PySem.Calls PyProof.Rows PySem.W.X
set_option maxRecDepth 100000
set_option maxHeartbeats 4000000
set_option rowWalk.seconds 0
namespace Mine
abbrev excD (C dx t : Addr) : Obj := ⟨.ref C, some dx, .fields #[.ref t, .none, .none, .none, .bool false, .none], #[]⟩
theorem InstAt.exc {h₀ h : Heap} {L x C : Addr} {news : List (Addr × Obj)} {vs : Array Value} {sl : Array (Option Value)} (N : News h₀ L h news) (h1 : (x, (⟨.ref C, none, .fields vs, sl⟩ : Obj)) ∈ news) :
    InstAt h x ⟨.ref C, none, .fields vs, sl⟩ C none := ⟨(N _ h1).1, rfl, rfl, trivial⟩
local macro_rules | `(tactic| k_inst) => `(tactic| exact InstAt.exc (by k_asm) (by k_mem))
theorem mkLimit (w : World) (msg : Str) (tm : Tok) (news : List (Addr × Obj)) :
    CallAt w 128 [.str msg tm] news 10 60 (fun h₀ L m s Q _ => ∀ e dx t h' tk' key, Fr h₀ L h' m → News h₀ L h' ((e, excD 128 dx t) :: (dx, dictOf [⟨PyData.keyHash w.params "what", .str "what" key, .str msg tm⟩] 1) :: news) → (∀ p ∈ news, p.1 ≠ e) → e ≠ dx → (∀ p ∈ news, p.1 ≠ dx) → Q (.ref e) { s with heap := h', toks := tk' }) := by
  w_top on
  unfold CallAt; intro dp un gd cn cs a ccd cl outer A₀ base h₀ L m mg mb mean s Q E B F X N T hk hd hu hret; refine wpAny_call ?_;
  refine callExcK (C := 128) (f := 65) (K := Mine.hd05.heap_1 w.params) F N (X.keeps F.keep) (bm := [.ref 75, .type "Exception", .type "BaseException", .type "object"]) ⟨rfl, rfl, rfl, rfl⟩ (by k_dflt k_is) (by k_dflt k_is) (by k_dflt k_is) (by show (1 : Nat) ≤ sizeLine; decide) ?_
  intro e t h' F' N' l1 l2
  have hne : ∀ p ∈ news, p.1 ≠ e := fun p hp => Nat.ne_of_lt (Nat.lt_trans (l1 p hp) l2)
  k_dflt (refine' ks_code_super ?k1 ?k2 ?k3 ?k4 ?k5 ?kA ?kF ?kK ?k6 ?k7 ?k8 ?k9 ?kB ?_ ?c1 ?c2 ?c3 ?c4; (case kA => exact rfl); (case kF => exact rfl); (case kK => first | exact rfl | assumption); (case k1 => k_asm); (case k2 => k_asm); (case k3 => k_asm); (case k4 => k_asm); (case k5 => k_asm); (case k6 => k_is); (case k7 => k_is); (case k8 => (simp only [depth_under_make, depth_in1, depth_deeper, depth_mark, recursionLimit]; (try dsimp only [ktrTop]); omega)); (case k9 => exact BindsTo.of_eq rfl); (case kB => exact locs rfl); (case c1 => decide); (case c2 => exact rfl); (case c3 => exact rfl); (case c4 => exact rfl); intro g' L' h' FG' F' N' B' X' T' l1; (try k_lt l1); (try dsimp only); (try k_lift B'))
  (
  k_steps;
  k_dflt (refine' methSuperB ?F ?X ?N ?so ?x ?ho ?hc ?hm ?hk ?hg ?_; (case F => k_asm); (case X => k_asm); (case N => k_asm); (case so => k_mem); (case x => k_mem); (case ho => k_is); (case hc => k_is); (case hm => kernel_rfl); (case hk => kernel_rfl));
  (case hg =>
    intro hX hE Q' E' hq
    refine wk (d := 950) (u := 9500) ?g rfl (by (simp only [depth_under_make, depth_in1, depth_deeper, depth_mark, recursionLimit]; (try dsimp only [ktrTop]); omega)) (by (simp only [units_under_make, units_in1, units_deeper, Around.mark_units, cLine_is]; (try dsimp only [ktrTop]); omega))
    refine' wdGet128 ?a ?b ?c
    case a => exact hX
    case b => exact hE
    case c => exact hq);
  (intro q h2 F2 N2 l3);
  dsimp only;
  k_fold;
  (refine callWith_mw (x := e) ?_);
  k_steps;
  (· exact (N2 _ (.head _)).1);
  (have N3 : News _ _ _ ((q, mwObj e) :: (e, excNew 128 t) :: news) := cb_drop N2 (by kcj_all));
  k_dflt (refine' callMwK ?F ?X ?N ?C ?ne ?z ?_; (case F => k_asm); (case X => k_asm); (case N => exact N3); (case C => k_is); (case ne => exact hne); (case z => (show (1 : Nat) ≤ sizeLine; decide)));
  (intro t3 h3 F3 N3);
  dsimp only;
  k_steps;
  k_dflt (refine' setNewK ?F ?X ?N ?S ?ne ?_; (case F => k_asm); (case X => k_asm); (case N => exact N3); (case S => refine' ⟨?a, ?b, ?c, ?d, ?e, ?f⟩; (case a => k_is); (case b => k_is); (case c => rfl); (case d => exact fun self => by simp only [refuseLoop_ref]; exact PySem.F.store_Exception.passes self); (case e => k_is); (case f => k_is)); (case ne => exact hne));
  (intro dx h4 tk4 key F4 N4 hne4 hnd4);
  dsimp only;
  k_steps)
  exact hret _ _ _ _ _ _ (by k_asm) (by k_asm) hne (by assumption) (by assumption)
theorem mkEval (w : World) (z : Int) (msg : Str) (tm tz : Tok) (news : List (Addr × Obj)) :
    CallAt w 116 [.str msg tm, .int z tz] news 10 60 (fun h₀ L m s Q _ => ∀ e dx t h' tk' key key', Fr h₀ L h' m → News h₀ L h' ((e, excD 116 dx t) :: (dx, dictOf [⟨PyData.keyHash w.params "what", .str "what" key, .str msg tm⟩, ⟨PyData.keyHash w.params "spot", .str "spot" key', .int z tz⟩] 2) :: news) → (∀ p ∈ news, p.1 ≠ e) → e ≠ dx → (∀ p ∈ news, p.1 ≠ dx) → Q (.ref e) { s with heap := h', toks := tk' }) := by
  w_top on
  unfold CallAt; intro dp un gd cn cs a ccd cl outer A₀ base h₀ L m mg mb mean s Q E B F X N T hk hd hu hret; refine wpAny_call ?_;
  refine callExcK (C := 116) (f := 94) (K := Mine.hd05.heap_1 w.params) F N (X.keeps F.keep) (bm := [.ref 104, .ref 75, .type "Exception", .type "BaseException", .type "object"]) ⟨rfl, rfl, rfl, rfl⟩ (by k_dflt k_is) (by k_dflt k_is) (by k_dflt k_is) (by show (2 : Nat) ≤ sizeLine; decide) ?_
  intro e t h' F' N' l1 l2
  have hne : ∀ p ∈ news, p.1 ≠ e := fun p hp => Nat.ne_of_lt (Nat.lt_trans (l1 p hp) l2)
  k_dflt (refine' ks_code_super ?k1 ?k2 ?k3 ?k4 ?k5 ?kA ?kF ?kK ?k6 ?k7 ?k8 ?k9 ?kB ?_ ?c1 ?c2 ?c3 ?c4; (case kA => exact rfl); (case kF => exact rfl); (case kK => first | exact rfl | assumption); (case k1 => k_asm); (case k2 => k_asm); (case k3 => k_asm); (case k4 => k_asm); (case k5 => k_asm); (case k6 => k_is); (case k7 => k_is); (case k8 => (simp only [depth_under_make, depth_in1, depth_deeper, depth_mark, recursionLimit]; (try dsimp only [ktrTop]); omega)); (case k9 => exact BindsTo.of_eq rfl); (case kB => exact locs rfl); (case c1 => decide); (case c2 => exact rfl); (case c3 => exact rfl); (case c4 => exact rfl); intro g' L' h' FG' F' N' B' X' T' l1; (try k_lt l1); (try dsimp only); (try k_lift B'))
  k_steps
  refine call_meth (by k_asm) (by k_mem) ?_
  k_dflt (refine' ks_code_super ?k1 ?k2 ?k3 ?k4 ?k5 ?kA ?kF ?kK ?k6 ?k7 ?k8 ?k9 ?kB ?_ ?c1 ?c2 ?c3 ?c4; (case kA => exact rfl); (case kF => exact rfl); (case kK => first | exact rfl | assumption); (case k1 => k_asm); (case k2 => k_asm); (case k3 => k_asm); (case k4 => k_asm); (case k5 => k_asm); (case k6 => k_is); (case k7 => k_is); (case k8 => (simp only [depth_under_make, depth_in1, depth_deeper, depth_mark, recursionLimit]; (try dsimp only [ktrTop]); omega)); (case k9 => exact BindsTo.of_eq rfl); (case kB => exact locs rfl); (case c1 => decide); (case c2 => exact rfl); (case c3 => exact rfl); (case c4 => exact rfl); intro g' L' h' FG' F' N' B' X' T' l1; (try k_lt l1); (try dsimp only); (try k_lift B'))
  (
  k_steps;
  k_dflt (refine' methSuperB ?F ?X ?N ?so ?x ?ho ?hc ?hm ?hk ?hg ?_; (case F => k_asm); (case X => k_asm); (case N => k_asm); (case so => k_mem); (case x => k_mem); (case ho => k_is); (case hc => k_is); (case hm => kernel_rfl); (case hk => kernel_rfl));
  (case hg =>
    intro hX hE Q' E' hq
    refine wk (d := 950) (u := 9500) ?g rfl (by (simp only [depth_under_make, depth_in1, depth_deeper, depth_mark, recursionLimit]; (try dsimp only [ktrTop]); omega)) (by (simp only [units_under_make, units_in1, units_deeper, Around.mark_units, cLine_is]; (try dsimp only [ktrTop]); omega))
    refine' wdGet ?a ?b ?c
    case a => exact hX
    case b => exact hE
    case c => exact hq);
  (intro q h2 F2 N2 l3);
  dsimp only;
  k_fold;
  (refine callWith_mw (x := e) ?_);
  k_steps;
  (· exact (N2 _ (.head _)).1);
  (have N3 : News _ _ _ ((q, mwObj e) :: (e, excNew 116 t) :: news) := cb_drop N2 (by kcj_all));
  k_dflt (refine' callMwK ?F ?X ?N ?C ?ne ?z ?_; (case F => k_asm); (case X => k_asm); (case N => exact N3); (case C => k_is); (case ne => exact hne); (case z => (show (1 : Nat) ≤ sizeLine; decide)));
  (intro t3 h3 F3 N3);
  dsimp only;
  k_steps;
  k_dflt (refine' setNewK ?F ?X ?N ?S ?ne ?_; (case F => k_asm); (case X => k_asm); (case N => exact N3); (case S => refine' ⟨?a, ?b, ?c, ?d, ?e, ?f⟩; (case a => k_is); (case b => k_is); (case c => rfl); (case d => exact fun self => by simp only [refuseLoop_ref]; exact PySem.F.store_Exception.passes self); (case e => k_is); (case f => k_is)); (case ne => exact hne));
  (intro dx h4 tk4 key F4 N4 hne4 hnd4);
  dsimp only;
  k_steps)
  k_dflt (refine' setMoreK (news := news) ?F ?X ?N ?S ?l ?ne ?nd ?z ?_; (case F => k_asm); (case X => k_asm); (case N => k_asm); (case S => refine' ⟨?a, ?b, ?c, ?d, ?e, ?f⟩; (case a => k_is); (case b => k_is); (case c => rfl); (case d => exact fun self => by simp only [refuseLoop_ref]; exact PySem.F.store_Exception.passes self); (case e => k_is); (case f => k_is)); (case l => k_get); (case ne => assumption); (case nd => assumption); (case z => exact Nat.le_of_ble_eq_true rfl))
  intro h5 tk5 key5 F5 N5
  dsimp only
  k_steps
  exact hret _ _ _ _ _ _ key5 (by k_asm) (by k_asm) hne (by assumption) (by assumption)
end Mine
end -- E8
section -- Sp
open PySem PySem.W PySem.Spec PySem.Calls PyProof.Rows PySem.W.X
set_option maxRecDepth 100000
set_option maxHeartbeats 4000000
namespace Mine
local macro_rules | `(tactic| x_close) => `(tactic| ((rename (∀ tk : Nat, _) => hR); exact hR _))
theorem spotCall {w : World} {H : Option Value} {s : Shared} {e dx : Addr} {vs : Array Value} {sl : Array (Option Value)} {msg : Str} {key tm key' tz tn : Tok} {z : Int} {n : Nat} (X : (Mine.hd05.heap_1 w.params).In s.heap) (he : s.heap.get? e = some ⟨.ref 116, some dx, .fields vs, sl⟩)
  (hd : s.heap.get? dx = some ⟨.type "dict", none, .dict #[⟨PyData.keyHash w.params (Str.ofString "what"), .str (Str.ofString "what") key, .str msg tm⟩, ⟨PyData.keyHash w.params (Str.ofString "spot"), .str (Str.ofString "spot") key', .int z tz⟩] n, #[]⟩) {Q E : Value → Shared → Prop}
  (hret : ∀ tk : Nat, Q (.int z tz) { s with toks := tk }) :
    wpAny (model PySem.Challenge.rw_qd0023_05.row.prog w) { handled := H, depth := 950, frames := none, guards := none, units := 9500 } (call (.builtin "BaseException.__getattribute__") [.ref e, .str (Str.ofString "spot") tn]) Q E s := by
  x_run
theorem wkH {M : Model} {A : Around} {α : Type} {Q : α → Shared → Prop} {E : Value → Shared → Prop} {s : Shared} {t : Sem α} {d u : Nat} (h : wpAny M { handled := A.handled, depth := d, frames := none, guards := none, units := u } t Q E s) (hd : A.depth ≤ d) (hu : A.units ≤ u) : wpAny M A t Q E s :=
  fun Γ p hΓ => h Γ p ⟨hΓ.1, Nat.le_trans hΓ.2.1 hd, fun _ e => (nomatch e), fun _ e => (nomatch e), Nat.le_trans hΓ.2.2.2.2 hu⟩
theorem spotGet {w : World} {A : Around} {s : Shared} {h₀ : Heap} {L e dx : Addr} {m : Str → Option Value} {news : List (Addr × Obj)} {vs : Array Value} {sl : Array (Option Value)} {msg : Str} {key tm key' tz : Tok} {z : Int} {n : Nat}
  (F : Fr h₀ L s.heap m) (X₀ : (Mine.hd05.heap_1 w.params).In h₀) (N : News h₀ L s.heap news) (he : (e, (⟨.ref 116, some dx, .fields vs, sl⟩ : Obj)) ∈ news)
  (hd : (dx, dictOf [⟨PyData.keyHash w.params (Str.ofString "what"), .str (Str.ofString "what") key, .str msg tm⟩, ⟨PyData.keyHash w.params (Str.ofString "spot"), .str (Str.ofString "spot") key', .int z tz⟩] n) ∈ news) {Q E : Value → Shared → Prop}
  (hAd : A.depth ≤ 950) (hAu : A.units ≤ 9500)
  (hret : ∀ tk : Nat, Q (.int z tz) { s with toks := tk }) :
    wpAny (model PySem.Challenge.rw_qd0023_05.row.prog w) A (getAttr (.ref e) (Str.ofString "spot") true) Q E s := by
  have X : (Mine.hd05.heap_1 w.params).In s.heap := X₀.keeps F.keep
  have he := (N _ he).1
  have hd := (N _ hd).1
  have hga : findIn (Mine.hd05.heap_1 w.params) (.ref 116) "__getattribute__" = some (some (.builtin "BaseException.__getattribute__")) := by k_dflt k_is
  have hgt : findIn (Mine.hd05.heap_1 w.params) (.ref 116) "__getattr__" = some none := by k_dflt k_is
  have L0 : Looks (model PySem.Challenge.rw_qd0023_05.row.prog w) s.heap (typeOf (.ref e)) (.ref 116) := (Looks.ld he).andThen .now
  have L1 := looks_findIn (M := model PySem.Challenge.rw_qd0023_05.row.prog w) X hga
  have L2 := looks_findIn (M := model PySem.Challenge.rw_qd0023_05.row.prog w) X hgt
  have f3 := PySem.F.excAttr_ValueError.ga.bind (.ref e)
  obtain ⟨hh, g, d, t, os⟩ := s
  unfold getAttr getAttrBy
  refine wpAny_bind (wpAny_mkText (wpAny_holding (wpAny_bind (L0.at (wpAny_bind (L1.at ?_))))))
  show wpAny _ _ (getAttrByItsOwn _ _ _ _ _ _) _ _ _
  unfold getAttrByItsOwn hookBefore
  refine wpAny_bind (L2.at ?_)
  refine wpAny_bind (wpAny_attempt (wpAny_holding ?_))
  show wpAny _ _ (boundAndCalled _ _ _) _ _ _
  unfold boundAndCalled
  rw [f3]
  refine wpAny_bind (wpAny_pure ?_)
  refine wkH (d := 950) (u := 9500) (spotCall (s := ⟨hh, g, d, t + 1, os⟩) X he hd fun tk => ?_) hAd hAu
  show wpAny _ _ (handedOut _) _ _ _
  rw [handedOut_of rfl]
  exact wpAny_pure (hret tk)
end Mine
end -- Sp
section
open PySem PySem.W PySem.Spec PySem.Calls PyProof.Rows PySem.W.X
set_option maxRecDepth 100000
set_option maxHeartbeats 4000000
set_option rowWalk.seconds 0
namespace Mine
-- G1
/-- what a call of the project's answers: an int, or one of its faults -/
inductive Ans where
  | val (i : Int)
  | limit
  | bad (z : Int)
def AnsPost (w : World) (r : Ans) (l : List Env) (news : List (Addr × Obj)) (h₀ : Heap) (L : Addr) (m : Str → Option Value) (s : Shared) (Q E : Value → Shared → Prop) : Prop :=
  match r with
  | .val i => ∀ t h' tk', Fr h₀ L h' m → News h₀ L h' news → Q (.int i t) { s with heap := h', toks := tk' }
  | .limit => ∀ e dx h' tk' key msg tm, Flown h₀ L m news l e 128 dx [⟨PyData.keyHash w.params "what", .str "what" key, .str msg tm⟩] .none h' → E (.ref e) { s with heap := h', toks := tk' }
  | .bad z => ∀ e dx h' tk' key msg tm key' tz, Flown h₀ L m news l e 116 dx [⟨PyData.keyHash w.params "what", .str "what" key, .str msg tm⟩, ⟨PyData.keyHash w.params "spot", .str "spot" key', .int z tz⟩] .none h' → E (.ref e) { s with heap := h', toks := tk' }
/-- a call of the def at f that answers r -/
def CallR (w : World) (f : Addr) (vs : List Value) (news : List (Addr × Obj)) (d u : Nat) (r : Ans) : Prop :=
  ∀ (dp un : Nat) (gd : Option (List Code)) (cn : Str) (cs : Scope) (a : Addr) (ccd : Value) (cl : List (Str × Addr)) (outer : List Env) (A₀ : Around) (base h₀ : Heap) (L : Addr) (m mg mb : Str → Option Value) (mean : ExcName → Option Value) (s : Shared) (Q E : Value → Shared → Prop),
    Below A₀ base outer h₀ → Fr h₀ L s.heap m → (Mine.hd05.heap_1 w.params).In h₀ → News h₀ L s.heap news → Top Mine.view05 (looseW Mine.view05 []) mean mg mb h₀ → cs.kind = .function → dp + d < 900 → un + u < 9000 →
    AnsPost w r (envX cn cs L a ccd cl :: outer) news h₀ L m s Q E → wpAny (model PySem.Challenge.rw_qd0023_05.row.prog w) (ktrTop dp un gd cn cs L a ccd cl outer) (call (.ref f) vs) Q E s
local macro_rules | `(tactic| walk_at "my_enter") => `(tactic| (w_top on; unfold CallR; intro dp un gd cn cs a ccd cl outer A₀ base h₀ L m mg mb mean s Q E B F X N T hk hd hu hret; refine wpAny_call ?_; k_dflt cell_enter; k_steps))
local macro_rules | `(tactic| k_call_by "app" $t) => `(tactic| (k_dflt (refine' $t _ _ _ _ _ _ _ _ _ _ _ _ _ _ _ _ _ _ _ _ ?k1 ?k2 ?k3 ?k4 ?k5 ?kK ?kd ?ku ?kR); (case k1 => k_asm); (case k2 => k_asm); (case k3 => k_asm); (case k4 => k_asm); (case k5 => k_asm); (case kK => first | exact rfl | assumption); (case kd => (dsimp only [ktrTop] at *; omega)); (case ku => (dsimp only [ktrTop] at *; omega))))
abbrev ClsBase (K : Frag) (C : Addr) : Prop := ∃ nm q N bs bm hdct sn sub ab col dd k0 k1 k2 k3 k5 newId, K.lookup C = some (excClassObj nm q C N bs bm hdct sn sub ab col dd k0 k1 k2 k3 k5 newId) ∧ bm.contains (.type "BaseException") = true
theorem cls128 (w : World) : ClsBase (Mine.hd05.heap_1 w.params) 128 := ⟨_, _, _, _, [.ref 75, .type "Exception", .type "BaseException", .type "object"], _, _, _, _, _, _, _, _, _, _, _, "Exception.__new__", by k_dflt k_is, rfl⟩
theorem cls116 (w : World) : ClsBase (Mine.hd05.heap_1 w.params) 116 := ⟨_, _, _, _, [.ref 104, .ref 75, .type "Exception", .type "BaseException", .type "object"], _, _, _, _, _, _, _, _, _, _, _, "Exception.__new__", by k_dflt k_is, rfl⟩
theorem raiseUp {K : Frag} {g : Heap} {L' e C dx t : Addr} {m' : Str → Option Value} {s' : Shared} {E : Value → Shared → Prop} {es : List DictEntry} {n : Nat} {news : List (Addr × Obj)}
    (F1 : Fr g L' s'.heap m') (X₀ : K.In g) (N1 : News g L' s'.heap ((e, excD C dx t) :: (dx, dictOf es n) :: news)) (hc : ClsBase K C) (hE : E (.ref e) s') : RaisableD E (.ref e) s' := by
  obtain ⟨nm, q, N, bs, bm, hdct, sn, sub, ab, col, dd, k0, k1, k2, k3, k5, newId, h1, h2⟩ := hc
  exact ⟨e, C, dx, .ref t, _, _, nm, q, N, bs, bm, hdct, sn, sub, ab, col, dd, k0, k1, k2, k3, k5, newId, rfl, F1.keep _ _ (X₀ _ _ h1), h2, (N1 _ (.head _)).1, hE⟩
theorem flownMade {M : Model} {A : Around} {E : Value → Shared → Prop} {s' : Shared} {base h₀ g hh : Heap} {outer : List Env} {L L' a e C dx t : Addr} {m m' : Str → Option Value} {name : Str} {scope : Scope} {cd : Value} {Q : Unit → Shared → Prop} {news nw : List (Addr × Obj)} {es : List DictEntry} {n : Nat} {en : Env}
    (K : Below A base (en :: outer) g) (hL : en.frame = some L) (FG : Fr h₀ L g m) (F : Fr g L' s'.heap m') (N₀ : News g L' s'.heap ((e, excD C dx t) :: (dx, dictOf es n) :: nw)) (hne : e ≠ dx) (hs : ∀ q ∈ nw, q.1 ≠ e) (hl : News h₀ L hh news) (hsub : ∀ q ∈ news, q ∈ nw)
    (hQ : ∀ h', Flown h₀ L m news (en :: outer) e C dx es .none h' → Q () { s' with heap := h' }) (hk : scope.kind = .function := by rfl) :
    wpAny M (A.deeper (envOf name scope L' a cd)) (leaving (envOf name scope L' a cd) (.ref e)) Q E s' :=
  flownNew (n := n) K hL FG F N₀ (.head _) (.tail _ (.head _)) hne (fun q hq => ⟨.tail _ (.tail _ (hsub q hq)), hs q (hsub q hq)⟩) rfl (fun q hq => (hl q hq).2.1) hQ hk
local macro_rules | `(tactic| walk_at "exec Raise some none") => `(tactic| (k_dflt (refine' Mine.RaiseD ?hrd ?_; (case hrd => exact rfl))))
local macro_rules | `(tactic| k_call_by "appAt" $t) => `(tactic| (k_dflt (refine' $t _ _ _ _ _ _ _ _ _ _ _ _ _ _ _ _ _ _ _ _ ?k1 ?k2 ?k3 ?k4 ?k5 ?kK ?kd ?ku ?kR); (case k1 => k_asm); (case k2 => k_asm); (case k3 => k_asm); (case k4 => k_asm); (case k5 => k_asm); (case kK => first | exact rfl | assumption); (case kd => (dsimp only [ktrTop, Around.deeper] at *; omega)); (case ku => (dsimp only [ktrTop, Around.deeper] at *; omega))))
local macro_rules | `(tactic| k_call_by "my_enter" $h) => `(tactic| (w_top on; unfold CallR; intro dp un gd cn cs a ccd cl outer A₀ base h₀ L m mg mb mean s Q E B F X N T hk hd hu $h:term; refine wpAny_call ?_; k_dflt cell_enter; k_steps))
local macro_rules | `(tactic| k_call_by "raise" $c $h) => `(tactic| (intro e dx t h1 tk1 key F1 N1 l1 l2 l3; (show RaisableD _ _ _); (refine raiseUp F1 (by k_asm) N1 $c ?_); (refine flownMade (by k_asm) rfl (by k_asm) F1 N1 l2 l1 (by assumption) (by kcj_all) (fun h' fl => ?_)); exact $h _ _ _ _ _ _ _ fl))
local macro_rules | `(tactic| k_call_by "raise2" $c $h) => `(tactic| (intro e dx t h1 tk1 key key' F1 N1 l1 l2 l3; (show RaisableD _ _ _); (refine raiseUp F1 (by k_asm) N1 $c ?_); (refine flownMade (by k_asm) rfl (by k_asm) F1 N1 l2 l1 (by assumption) (by kcj_all) (fun h' fl => ?_)); exact $h _ _ _ _ _ _ _ _ _ fl))
local macro_rules | `(tactic| walk_at "sz") => `(tactic| first
  | assumption | (refine Sz.mono (by assumption) ?_; decide) | (refine Sz.mono sz1 ?_; decide)
  | (refine Sz.abs ?_; walk_at "sz") | (refine Sz.neg ?_; walk_at "sz") | (refine Sz.mulH ?_ ?_ <;> walk_at "sz") | (refine Sz.add ?_ ?_ <;> walk_at "sz") | (refine Sz.sub ?_ ?_ <;> walk_at "sz"))
local macro_rules | `(tactic| walk_at "binaryOp Mult int int") => `(tactic| ((with_reducible refine mul_int ?_ (Sz.mulOk (k := 9000) (l := 9000) ?ks1 ?ks2 ?kl1 ?kl2)); (case ks1 => walk_at "sz"); (case ks2 => walk_at "sz"); (case kl1 => decide); (case kl2 => decide)))
local macro_rules | `(tactic| walk_at "binaryOp FloorDiv int int") => `(tactic| (with_reducible refine floordiv_int ?kbe ?_ (Or.inl (Sz.py (k := 9000) ?ks ?kl)); (case ks => walk_at "sz"); (case kl => decide); (case kbe => first | assumption | omega | (split <;> omega))))
theorem rim_is (w : World) (news : List (Addr × Obj)) : CallR w 415 [] news 4 20 (.val rim) := by
  k_call_by "my_enter" hret
  exact hret _ _ _ (by k_asm) (by k_asm)
def wfA (v : Int) : Ans := if rim ≤ (if v < 0 then -v else v) then .limit else .val v
theorem wf_is (w : World) (v : Int) (tv : Tok) (news : List (Addr × Obj)) : CallR w 214 [.int v tv] news 20 90 (wfA v) := by
  k_call_by "my_enter" hret
  · (rename (10 : Int) ^ Int.toNat 1000 ≤ _ => hc); rw [rim_eq] at hc; rw [wfA, if_pos hc] at hret
    k_call_by "appAt" (mkLimit w _ _ _)
    k_call_by "raise" (cls128 w) hret
  · (rename ¬ ((10 : Int) ^ Int.toNat 1000 ≤ _) => hc); rw [rim_eq] at hc; rw [wfA, if_neg hc] at hret
    exact hret _ _ _ (by k_asm) (by k_asm)
def quotA (a b z : Int) : Ans := if b = 0 then .bad z else .val (a.tdiv b)
theorem fdivAbs {x y : Int} : (if x < 0 then -x else x).fdiv (if y < 0 then -y else y) = ((x.natAbs / y.natAbs : Nat) : Int) := by
  have e1 : (if x < 0 then -x else x) = (x.natAbs : Int) := by split <;> omega
  have e2 : (if y < 0 then -y else y) = (y.natAbs : Int) := by split <;> omega
  rw [e1, e2, Int.fdiv_eq_ediv_of_nonneg _ (Int.natCast_nonneg _)]; rfl
theorem quotSame {x y : Int} (h0 : y ≠ 0) (h : (decide (x < 0) == decide (y < 0)) = true) : (if x < 0 then -x else x).fdiv (if y < 0 then -y else y) = x.tdiv y := by
  have h' : x < 0 ↔ y < 0 := by simpa using h
  rw [fdivAbs]
  rcases Int.natAbs_eq x with hx | hx <;> rcases Int.natAbs_eq y with hy | hy
  · conv => rhs; rw [hx, hy]
    rfl
  · have hx0 : x = 0 := by omega
    subst hx0; simp
  · have hx0 : x = 0 := by omega
    subst hx0; simp
  · conv => rhs; rw [hx, hy]
    rw [Int.neg_tdiv_neg]; rfl
theorem quotOther {x y : Int} (h0 : y ≠ 0) (h : (decide (x < 0) == decide (y < 0)) = false) : -(if x < 0 then -x else x).fdiv (if y < 0 then -y else y) = x.tdiv y := by
  have h' : ¬ (x < 0 ↔ y < 0) := by
    intro q
    have : (decide (x < 0) == decide (y < 0)) = true := by simpa using q
    rw [this] at h; cases h
  rw [fdivAbs]
  rcases Int.natAbs_eq x with hx | hx <;> rcases Int.natAbs_eq y with hy | hy
  · exfalso; omega
  · conv => rhs; rw [hx, hy]
    rw [Int.tdiv_neg]; rfl
  · conv => rhs; rw [hx, hy]
    rw [Int.neg_tdiv]; rfl
  · by_cases hx0 : x = 0
    · subst hx0; simp
    · exfalso; omega
theorem quot_is (w : World) (x y z : Int) (tx ty tz : Tok) (news : List (Addr × Obj)) (hy : Sz 9000 y) : CallR w 207 [.int x tx, .int y ty, .int z tz] news 20 90 (quotA x y z) := by
  k_call_by "my_enter" hret
  · (rename y = 0 => hc); rw [quotA, if_pos hc] at hret
    k_call_by "appAt" (mkEval w _ _ _ _ _)
    k_call_by "raise2" (cls116 w) hret
  all_goals (rw [quotA, if_neg (by assumption)] at hret)
  · rw [quotSame (by assumption) (by assumption)]; exact hret _ _ _ (by k_asm) (by k_asm)
  · rw [quotOther (by assumption) (by assumption)]; exact hret _ _ _ (by k_asm) (by k_asm)
-- G2
local macro_rules | `(tactic| k_call_by "my_open" $h) => `(tactic| (unfold CallR; intro dp un gd cn cs a ccd cl outer A₀ base h₀ L m mg mb mean s Q E B F X N T hk hd hu $h:term; refine wpAny_call ?_; k_dflt cell_enter))
theorem flownUp {M : Model} {A : Around} {E : Value → Shared → Prop} {s' : Shared} {base h₀ g hh h2 : Heap} {outer : List Env} {L L' e C dx : Addr} {m m' mm : Str → Option Value} {Q : Unit → Shared → Prop} {news news' : List (Addr × Obj)} {es : List DictEntry} {en env : Env}
    (K : Below A base (en :: outer) g) (hf : env.frame = some L') (hL : en.frame = some L) (FG : Fr h₀ L g m) (F : Fr g L' hh mm) (R : Flown g L' m' news' (env :: en :: outer) e C dx es .none s'.heap) (hl : News h₀ L h2 news) (hs : ∀ q ∈ news, q ∈ news')
    (hQ : ∀ h', Flown h₀ L m news (en :: outer) e C dx es .none h' → Q () { s' with heap := h' }) :
    wpAny M (A.deeper env) (leaving env (.ref e)) Q E s' :=
  flownOn K.stack hf (fun b hb => by obtain ⟨_, o, ho, _⟩ := K.frames.mem hb; exact ⟨o, ho⟩) FG (kts_self F) R hL hs (Around.frames_deeper K.stack) hQ
local macro_rules | `(tactic| k_call_by "pass" $h) => `(tactic| (intro e dx h1 tk1 key msg tm fl; (refine flownUp (by k_asm) rfl rfl (by k_asm) (by assumption) fl (by assumption) (by kcj_all) (fun h' fl => ?_)); exact $h _ _ _ _ _ _ _ fl))
local macro_rules | `(tactic| k_call_by "pass2" $h) => `(tactic| (intro e dx h1 tk1 key msg tm key' tz fl; (refine flownUp (by k_asm) rfl rfl (by k_asm) (by assumption) fl (by assumption) (by kcj_all) (fun h' fl => ?_)); exact $h _ _ _ _ _ _ _ _ _ fl))
local macro_rules | `(tactic| k_call_by "back" $h) => `(tactic| (intro t h' tk' F' N'; (try dsimp only); (try k_fold); k_steps; exact $h _ _ _ (by k_asm) (by k_asm)))
local macro_rules | `(tactic| walk_at "eval Call") => `(tactic| k_dflt (refine Call_ ?_))
def loopA (b : Int) : Nat → Int → Ans
  | 0, f => .val f
  | n + 1, f => if rim ≤ (if f * b < 0 then -(f * b) else f * b) then .limit else loopA b n (f * b)
def powN (a b : Int) : Int := if 1 < (if a < 0 then -a else a) then b else (if 2 - b.fmod 2 < b then 2 - b.fmod 2 else b)
def powA (a b z : Int) : Ans :=
  if 1000 < (if b < 0 then -b else b) ∧ 1 < (if a < 0 then -a else a) then .limit
  else if b < 0 then quotA 1 (if b.fmod 2 = 1 then a else a * a) z
  else loopA a (powN a b).toNat 1
def PowInv (x : Int) (n : Nat) (pre : List Int) (f : Int) : Prop := Sz 3322 f ∧ loopA x n 1 = loopA x (n - pre.length) f
theorem PowInv.start {x : Int} {n : Nat} : PowInv x n [] 1 := ⟨sz1.mono (by decide), rfl⟩
theorem PowInv.limit {x f : Int} {n : Nat} {pre : List Int} (h : PowInv x n pre f) (hl : pre.length < n) (hc : rim ≤ (if f * x < 0 then -(f * x) else f * x)) : loopA x n 1 = .limit := by
  obtain ⟨_, h⟩ := h
  obtain ⟨k, hk⟩ : ∃ k, n - pre.length = k + 1 := ⟨n - pre.length - 1, by omega⟩
  rw [h, hk, loopA, if_pos hc]
theorem PowInv.next {x f k : Int} {n : Nat} {pre : List Int} (h : PowInv x n pre f) (hl : pre.length < n) (hc : ¬ rim ≤ (if f * x < 0 then -(f * x) else f * x)) : PowInv x n (pre ++ [k]) (f * x) := by
  obtain ⟨_, h⟩ := h
  obtain ⟨j, hj⟩ : ∃ k, n - pre.length = k + 1 := ⟨n - pre.length - 1, by omega⟩
  refine ⟨Sz.ofRim hc, ?_⟩
  have e : n - (pre ++ [k]).length = j := by simp; omega
  rw [h, hj, loopA, if_neg hc, e]
theorem PowInv.done {x f : Int} {n : Nat} {pre : List Int} (h : PowInv x n pre f) (hl : pre.length = n) : loopA x n 1 = .val f := by
  rw [h.2, hl, Nat.sub_self, loopA]
theorem PowInv.sz {x f : Int} {n : Nat} {pre : List Int} (h : PowInv x n pre f) : Sz 4000 f := h.1.mono (by decide)
theorem wfCases {w : World} {v : Int} {l : List Env} {news : List (Addr × Obj)} {h₀ : Heap} {L : Addr} {m : Str → Option Value} {s : Shared} {Q E : Value → Shared → Prop}
    (h2 : rim ≤ (if v < 0 then -v else v) → AnsPost w .limit l news h₀ L m s Q E) (h1 : ¬ rim ≤ (if v < 0 then -v else v) → AnsPost w (.val v) l news h₀ L m s Q E) : AnsPost w (wfA v) l news h₀ L m s Q E := by
  unfold wfA
  by_cases hc : rim ≤ (if v < 0 then -v else v)
  · rw [if_pos hc]; exact h2 hc
  · rw [if_neg hc]; exact h1 hc
theorem ansCases {w : World} {r : Ans} {l : List Env} {news : List (Addr × Obj)} {h₀ : Heap} {L : Addr} {m : Str → Option Value} {s : Shared} {Q E : Value → Shared → Prop}
    (h1 : ∀ i, r = .val i → AnsPost w (.val i) l news h₀ L m s Q E) (h2 : r = .limit → AnsPost w .limit l news h₀ L m s Q E) (h3 : ∀ z, r = .bad z → AnsPost w (.bad z) l news h₀ L m s Q E) : AnsPost w r l news h₀ L m s Q E := by
  cases r
  · exact h1 _ rfl
  · exact h2 rfl
  · exact h3 _ rfl
local macro_rules | `(tactic| k_call_by "tail" $h) => `(tactic| (refine ansCases (fun i hr => ?_) (fun hr => ?_) (fun z hr => ?_) <;> rw [hr] at $h:term; (k_call_by "back" $h); (k_call_by "pass" $h); (k_call_by "pass2" $h)))
section
local macro_rules | `(tactic| walk_at "pyIter ref") => `(tactic| k_extra "pyIter ref")
local macro_rules | `(tactic| walk_at "sz") => `(tactic| exact Sz.mono (PowInv.sz (by assumption)) (by decide))
theorem pow_is (w : World) (x y z : Int) (tx ty tz : Tok) (news : List (Addr × Obj)) (hx : Sz 4000 x) : CallR w 221 [.int x tx, .int y ty, .int z tz] news 40 200 (powA x y z) := by
  w_top on
  k_with "pyIter ref" => k_state (PowInv x (powN x y).toNat) "found"
  k_with "state" => first | exact PowInv.start | exact PowInv.next (by assumption) (by assumption) (by assumption)
  k_call_by "my_open" hret
  k_steps
  · rw [powA, if_pos ⟨by assumption, by assumption⟩] at hret
    k_call_by "appAt" (mkLimit w _ _ _)
    k_call_by "raise" (cls128 w) hret
  all_goals first
    | rw [powA, if_neg (fun h => absurd h.1 (by assumption))] at hret
    | rw [powA, if_neg (fun h => absurd h.2 (by assumption))] at hret
  all_goals first
    | (rw [if_pos (by assumption), if_pos (by assumption)] at hret; (k_call_by "app" (quot_is w _ _ _ _ _ _ _ (Sz.mono hx (by decide)))); k_call_by "tail" hret; done)
    | (rw [if_pos (by assumption), if_neg (by assumption)] at hret; (k_call_by "app" (quot_is w _ _ _ _ _ _ _ (Sz.mono (Sz.mul hx hx) (by decide)))); k_call_by "tail" hret; done)
    | rw [if_neg (by assumption)] at hret
  all_goals first
    | have hN : powN x y = y := if_pos (by assumption)
    | have hN : powN x y = (if 2 - y.fmod 2 < y then 2 - y.fmod 2 else y) := if_neg (by assumption)
  all_goals rename PowInv _ _ _ _ => hI
  · rename List.length _ < _ => hlt
    rw [Int.sub_zero, ← hN] at hlt
    k_call_by "app" (wf_is w _ _ _)
    refine wfCases (fun hc => ?_) (fun hc => ?_)
    · rw [PowInv.limit hI hlt hc] at hret
      k_call_by "pass" hret
    · intro t h' tk' F' N'
      dsimp only
      k_fold
      k_steps
  · rw [PowInv.done hI (by rw [rangeKs_length, Int.sub_zero, hN])] at hret
    exact hret _ _ _ (by k_asm) (by k_asm)
  · rename List.length _ < _ => hlt
    rw [Int.sub_zero, ← hN] at hlt
    k_call_by "app" (wf_is w _ _ _)
    refine wfCases (fun hc => ?_) (fun hc => ?_)
    · rw [PowInv.limit hI hlt hc] at hret
      k_call_by "pass" hret
    · intro t h' tk' F' N'
      dsimp only
      k_fold
      k_steps
  · rw [PowInv.done hI (by rw [rangeKs_length, Int.sub_zero, hN])] at hret
    exact hret _ _ _ (by k_asm) (by k_asm)
  · rename List.length _ < _ => hlt
    rw [Int.sub_zero, ← hN] at hlt
    k_call_by "app" (wf_is w _ _ _)
    refine wfCases (fun hc => ?_) (fun hc => ?_)
    · rw [PowInv.limit hI hlt hc] at hret
      k_call_by "pass" hret
    · intro t h' tk' F' N'
      dsimp only
      k_fold
      k_steps
  · rw [PowInv.done hI (by rw [rangeKs_length, Int.sub_zero, hN])] at hret
    exact hret _ _ _ (by k_asm) (by k_asm)
end
-- G3
def reckA (sign : Str) (a b z : Int) : Ans :=
  if (sign == Str.ofString "+") = true then wfA (a + b) else if (sign == Str.ofString "-") = true then wfA (a - b) else if (sign == Str.ofString "*") = true then wfA (a * b)
  else if (sign == Str.ofString "div") = true then quotA a b z else if (sign == Str.ofString "mod") = true then (if b = 0 then .bad z else .val (a - b * a.tdiv b)) else powA a b z
theorem number_is (w : World) (v z : Int) (tv tz : Tok) (news : List (Addr × Obj)) : CallR w 151 [.int v tv, .int z tz] news 10 60 (.val v) := by
  w_top on
  k_call_by "my_open" hret
  k_steps
  exact hret _ _ _ (by k_asm) (by k_asm)
theorem Sz.tdiv {k : Nat} {x : Int} (h : Sz k x) (y : Int) : Sz k (x.tdiv y) := h.le (by rw [Int.natAbs_tdiv]; exact Nat.div_le_self _ _)
theorem quotCases {w : World} {x y z : Int} {l : List Env} {news : List (Addr × Obj)} {h₀ : Heap} {L : Addr} {m : Str → Option Value} {s : Shared} {Q E : Value → Shared → Prop}
    (h2 : y = 0 → AnsPost w (.bad z) l news h₀ L m s Q E) (h1 : y ≠ 0 → AnsPost w (.val (x.tdiv y)) l news h₀ L m s Q E) : AnsPost w (quotA x y z) l news h₀ L m s Q E := by
  unfold quotA
  by_cases hc : y = 0
  · rw [if_pos hc]; exact h2 hc
  · rw [if_neg hc]; exact h1 hc
local macro_rules | `(tactic| walk_at "sz") => `(tactic| (refine Sz.tdiv ?_ _; walk_at "sz"))
theorem reck_is (w : World) (sign : Str) (x y z : Int) (ts tx ty tz : Tok) (news : List (Addr × Obj)) (hx : Sz 4000 x) (hy : Sz 4000 y) : CallR w 245 [.str sign ts, .int x tx, .int y ty, .int z tz] news 60 300 (reckA sign x y z) := by
  w_top on
  k_call_by "my_open" hret
  k_steps
  all_goals (unfold reckA at hret; repeat first | rw [if_pos (by assumption)] at hret | rw [if_neg (ne_true_of_eq_false (by assumption))] at hret)
  · k_call_by "app" (wf_is w _ _ _)
    k_call_by "tail" hret
  · k_call_by "app" (wf_is w _ _ _)
    k_call_by "tail" hret
  · k_call_by "app" (wf_is w _ _ _)
    k_call_by "tail" hret
  · k_call_by "app" (quot_is w _ _ _ _ _ _ _ (Sz.mono hy (by decide)))
    k_call_by "tail" hret
  · k_call_by "app" (quot_is w _ _ _ _ _ _ _ (Sz.mono hy (by decide)))
    refine quotCases (fun hc => ?_) (fun hc => ?_)
    · rw [if_pos hc] at hret
      intro e dx h1 tk1 key msg tm key' tz fl
      refine flownUp (by k_asm) rfl rfl (by k_asm) (by assumption) fl (by assumption) (by kcj_all) (fun h' fl => ?_)
      exact hret _ _ _ _ _ _ _ _ _ fl
    · rw [if_neg hc] at hret
      intro t h' tk' F' N'
      dsimp only
      k_fold
      k_steps
      exact hret _ _ _ (by k_asm) (by k_asm)
  · k_call_by "app" (pow_is w _ _ _ _ _ _ _ hx)
    k_call_by "tail" hret
-- G4
abbrev tup2 (v₁ v₂ : Value) : Obj := { cls := .type "tuple", data := .seq #[v₁, v₂] }
def TupIs (r : Ans) (o : Obj) : Prop := match r with
  | .val i => ∃ t₁ t₂, o = tup2 (.str (Str.ofString "told") t₁) (.int i t₂)
  | .limit => ∃ t₁ t₂, o = tup2 (.str (Str.ofString "limit") t₁) (.int 0 t₂)
  | .bad z => ∃ t₁ t₂, o = tup2 (.str (Str.ofString "bad") t₁) (.int z t₂)
def CallT (w : World) (f : Addr) (vs : List Value) (news : List (Addr × Obj)) (d u : Nat) (r : Ans) : Prop :=
  ∀ (dp un : Nat) (gd : Option (List Code)) (cn : Str) (cs : Scope) (a : Addr) (ccd : Value) (A₀ : Around) (base h₀ : Heap) (L : Addr) (m mg mb : Str → Option Value) (mean : ExcName → Option Value) (s : Shared) (Q E : Value → Shared → Prop),
    Below A₀ base [] h₀ → Fr h₀ L s.heap m → (Mine.hd05.heap_1 w.params).In h₀ → News h₀ L s.heap news → Top Mine.view05 (looseW Mine.view05 []) mean mg mb h₀ → (Mine.hd05.heap_1 w.params).In base → Top Mine.view05 (looseW Mine.view05 []) mean mg mb base → cs.kind = .function → dp + d < 900 → un + u < 9000 →
    (∀ T o h' tk', TupIs r o → Fr h₀ L h' m → News h₀ L h' ((T, o) :: news) → Q (.ref T) { s with heap := h', toks := tk' }) → wpAny (model PySem.Challenge.rw_qd0023_05.row.prog w) (ktrTop dp un gd cn cs L a ccd [] []) (call (.ref f) vs) Q E s
def toldA (sign : Str) (a b : Int) : Ans :=
  if (sign == Str.ofString "^") = true then powA a b 7 else if (sign == Str.ofString "div") = true ∧ a.fmod 2 = 0 then quotA a b 7 else reckA sign a b 7
theorem InstAt.excD {h₀ h : Heap} {L x C dx : Addr} {news : List (Addr × Obj)} {od : Obj} {vs : Array Value} {sl : Array (Option Value)} (N : News h₀ L h news) (h1 : (x, (⟨.ref C, some dx, .fields vs, sl⟩ : Obj)) ∈ news) (h2 : (dx, od) ∈ news) :
    InstAt h x ⟨.ref C, some dx, .fields vs, sl⟩ C (some od) := ⟨(N _ h1).1, rfl, rfl, (N _ h2).1⟩
local macro_rules | `(tactic| k_inst) => `(tactic| (refine' Mine.InstAt.excD ?N ?h1 ?h2; (case N => k_asm); (case h1 => k_mem); (case h2 => k_mem)))
abbrev evBm : List Value := [.ref 104, .ref 75, .type "Exception", .type "BaseException", .type "object"]
abbrev liBm : List Value := [.ref 75, .type "Exception", .type "BaseException", .type "object"]
theorem clsEv (w : World) : ClsAt (Mine.hd05.heap_1 w.params) 116 evBm := ⟨_, _, _, _, _, _, _, _, _, _, _, _, _, _, _, "Exception.__new__", by k_dflt k_is⟩
theorem clsLi (w : World) : ClsAt (Mine.hd05.heap_1 w.params) 128 liBm := ⟨_, _, _, _, _, _, _, _, _, _, _, _, _, _, _, "Exception.__new__", by k_dflt k_is⟩
theorem frNone {g h : Heap} {L : Addr} {m : Str → Option Value} (F : Fr g L h m) : g.get? L = none := kts_self F
theorem frAbove {g h : Heap} {L : Addr} {m : Str → Option Value} (F : Fr g L h m) : g.objs.size ≤ L := F.above
local macro_rules | `(tactic| walk_at "getAttr ref") => `(tactic| ((with_reducible show wpAny _ _ (getAttr (Value.ref _) (PySem.Str.ofString "spot") _) _ _ _); k_dflt (refine' Mine.spotGet ?F ?X ?N ?he ?hd ?a ?u ?_; (case F => k_asm); (case X => k_asm); (case N => k_asm); (case he => k_mem); (case hd => k_mem); (case a => (simp only [depth_deeper, depth_mark, ktrTop] at *; omega)); (case u => (simp only [units_deeper, Around.mark_units, ktrTop] at *; omega))); intro tks; dsimp only; (try k_fold)))
local macro_rules | `(tactic| k_call_by "caught" $h) => `(tactic| (
    refine ansCases (fun i hr => ?_) (fun hr => ?_) (fun z hr => ?_) <;> rw [hr] at $h:term
    · intro t h' tk' F' N'
      dsimp only
      k_steps
      exact $h _ _ _ _ ⟨_, _, rfl⟩ (by k_asm) (cb_drop (by assumption) (by kcj_all))
    · intro e dx h1 tk1 key msg tm fl
      dsimp (config := {zetaDelta := true}) only
      refine tryD (by k_asm) fl (fun h2 fl2 => ?_)
      refine missD (KF := Mine.hd05.heap_1 _) (C' := 116) (by k_asm) (frNone (by assumption)) (frAbove (by assumption)) fl2 (by assumption) (by assumption) (by k_dflt k_is) (clsLi _) (clsEv _) rfl rfl ?_
      refine hitD0 (KF := Mine.hd05.heap_1 _) (C' := 128) (by k_asm) (frNone (by assumption)) (frAbove (by assumption)) fl2 (by assumption) (by assumption) (by k_dflt k_is) (clsLi _) (clsLi _) rfl rfl ?_ (by with_unfolding_all passes_own)
      intro h3 g3 vs sl n3 tk3 T3 F3 N3 K3 X3 P3
      k_fold
      k_steps
      exact $h _ _ _ _ ⟨_, _, rfl⟩ (by k_asm) (cb_drop (by assumption) (by kcj_all))
    · intro e dx h1 tk1 key msg tm key' tz fl
      dsimp (config := {zetaDelta := true}) only
      refine tryD (by k_asm) fl (fun h2 fl2 => ?_)
      refine hitD (KF := Mine.hd05.heap_1 _) (C' := 116) (by k_asm) (frNone (by assumption)) (frAbove (by assumption)) fl2 (by assumption) (by assumption) (by k_dflt k_is) (clsEv _) (clsEv _) rfl rfl ?_
      intro h3 g3 vs sl n3 tk3 T3 F3 N3 K3 X3 P3
      k_fold
      k_steps
      exact $h _ _ _ _ ⟨_, _, rfl⟩ (by k_asm) (cb_drop (by assumption) (by kcj_all))))
theorem told_is (w : World) (sign : Str) (x y : Int) (ts tx ty : Tok) (news : List (Addr × Obj)) (hx : Sz 4000 x) (hy : Sz 4000 y) : CallT w 443 [.str sign ts, .int x tx, .int y ty] news 100 500 (toldA sign x y) := by
  w_top on
  unfold CallT; intro dp un gd cn cs a ccd A₀ base h₀ L m mg mb mean s Q E B F X N T XB TB hk hd hu hret; refine wpAny_call ?_
  (k_dflt (refine' code_defS0 ?k1 ?k2 ?k3 ?k4 ?k5 ?kA ?k6 ?k7 ?k8 ?k9 ?kB ?_ ?cK ?c2 ?c3 ?c4 ?c5; (case kA => exact rfl); (case k2 => k_asm); (case k1 => k_asm); (case k3 => k_asm); (case k4 => k_asm); (case k5 => k_asm); (case k6 => k_is); (case k7 => k_is); (case k8 => ktr_room); (case k9 => exact BindsTo.of_eq rfl); (case kB => exact locs rfl); (case cK => first | exact rfl | assumption); (case c2 => exact rfl); (case c3 => exact rfl); (case c4 => exact rfl); (case c5 => decide); k_whole; intro g' L' h' FG' F' N' B' X' T' D'; (try dsimp only); (try k_lift B'); (try k_fold)))
  k_steps
  · rw [toldA, if_pos (by assumption)] at hret
    k_call_by "app" (pow_is w _ _ _ _ _ _ _ hx)
    k_call_by "caught" hret
  all_goals rw [toldA, if_neg (ne_true_of_eq_false (by assumption))] at hret
  · rw [if_pos ⟨by assumption, by assumption⟩] at hret
    k_call_by "app" (quot_is w _ _ _ _ _ _ _ (Sz.mono hy (by decide)))
    k_call_by "caught" hret
  · rw [if_neg (fun h => absurd h.2 (by assumption))] at hret
    k_call_by "app" (reck_is w _ _ _ _ _ _ _ _ _ hx hy)
    k_call_by "caught" hret
  · rw [if_neg (fun h => absurd h.1 (ne_true_of_eq_false (by assumption)))] at hret
    k_call_by "app" (reck_is w _ _ _ _ _ _ _ _ _ hx hy)
    k_call_by "caught" hret
-- G5
local macro_rules | `(tactic| k_call_by "try_enter" $h) => `(tactic| (
  unfold CallT; intro dp un gd cn cs a ccd A₀ base h₀ L m mg mb mean s Q E B F X N T XB TB hk hd hu $h:term; refine wpAny_call ?_;
  (k_dflt (refine' code_defS0 ?k1 ?k2 ?k3 ?k4 ?k5 ?kA ?k6 ?k7 ?k8 ?k9 ?kB ?_ ?cK ?c2 ?c3 ?c4 ?c5; (case kA => exact rfl); (case k2 => k_asm); (case k1 => k_asm); (case k3 => k_asm); (case k4 => k_asm); (case k5 => k_asm); (case k6 => k_is); (case k7 => k_is); (case k8 => ktr_room); (case k9 => exact BindsTo.of_eq rfl); (case kB => exact locs rfl); (case cK => first | exact rfl | assumption); (case c2 => exact rfl); (case c3 => exact rfl); (case c4 => exact rfl); (case c5 => decide); k_whole; intro g' L' h' FG' F' N' B' X' T' D'; (try dsimp only); (try k_lift B'); (try k_fold)))))
local macro_rules | `(tactic| k_mem) => `(tactic| assumption)
local macro_rules | `(tactic| walk_at "my_room") => `(tactic| ((simp only [depth_mark, depth_under_make, depth_under_kw, depth_in1, depth_deeper, recursionLimit]); (try dsimp only [ktrTop]); omega))
theorem mkEv_is (w : World) (sc : Addr) (news : List (Addr × Obj)) : CallAt w 363 [.ref sc] news 10 60 (fun h₀ L m s Q _ => ∀ e dx h' tk' key, Fr h₀ L h' m → News h₀ L h' ((e, instObj 363 dx) :: (dx, dictOf [⟨PyData.keyHash w.params (Str.ofString "scope"), .str (Str.ofString "scope") key, .ref sc⟩] 1) :: news) → (∀ p ∈ news, p.1 < dx) → dx < e → Q (.ref e) { s with heap := h', toks := tk' }) := by
  w_top on
  unfold CallAt; intro dp un gd cn cs a ccd cl outer A₀ base h₀ L m mg mb mean s Q E B F X N T hk hd hu hret
  k_dflt (refine' call_cls ?k1 ?k2 ?k3 ?k4 ?k5 ?k6 ?_; (case k1 => k_asm); (case k2 => k_asm); (case k3 => k_asm); (case k4 => k_is); (case k5 => k_is); (case k6 => k_is); k_whole)
  intro x' d' h' F' N' l1 l2
  have l1' := l1
  have l2' := l2
  (try k_lt l1); (try k_lt2 l2)
  k_dflt (refine' code_def ?k1 ?k2 ?k3 ?k4 ?k5 ?kA ?kF ?kK ?k6 ?k7 ?k8 ?k9 ?kB ?_ ?c2 ?c3 ?c4 ?c5; (case kA => exact rfl); (case kF => exact rfl); (case kK => first | exact rfl | assumption); (case k1 => k_asm); (case k2 => k_asm); (case k3 => k_asm); (case k4 => k_asm); (case k5 => k_asm); (case k6 => k_is); (case k7 => k_is); (case k8 => walk_at "my_room"); (case k9 => exact BindsTo.of_eq rfl); (case c5 => decide); (case kB => exact locs rfl); (case c2 => exact rfl); (case c3 => exact rfl); (case c4 => exact rfl); k_whole; intro g' L' h' FG' F' N' B' X' T'; (try dsimp only); (try k_lift B'); (try k_fold))
  k_steps
  exact hret _ _ _ _ _ (by k_asm) (by k_asm) l1' l2'
abbrev tupO (vs : List Value) : Obj := { cls := .type "tuple", data := .seq vs.toArray }
theorem evInt_is (w : World) (e r : Addr) (y : Int) (ti t2 ty : Tok) (news : List (Addr × Obj)) (hr : (r, tupO [.str (Str.ofString "int") ti, .int 2 t2, .int y ty]) ∈ news) : CallR w 282 [.ref e, .ref r] news 20 100 (.val y) := by
  w_top on
  k_call_by "my_open" hret
  k_steps
  exact hret _ _ _ (by k_asm) (cb_drop (by assumption) (by kcj_all))
-- G6
local macro_rules | `(tactic| k_call_by "app" $t) => `(tactic| (k_dflt (refine' $t _ _ _ _ _ _ _ _ _ _ _ _ _ _ _ _ _ _ _ _ ?k1 ?k2 ?k3 ?k4 ?k5 ?kK ?kd ?ku ?kR); (case k1 => k_asm); (case k2 => k_asm); (case k3 => k_asm); (case k4 => first | k_asm | exact cb_drop (by assumption) (by kcj_all)); (case k5 => k_asm); (case kK => first | exact rfl | assumption); (case kd => (dsimp only [ktrTop] at *; omega)); (case ku => (dsimp only [ktrTop] at *; omega))))
local macro_rules | `(tactic| k_call_by "appAt" $t) => `(tactic| (k_dflt (refine' $t _ _ _ _ _ _ _ _ _ _ _ _ _ _ _ _ _ _ _ _ ?k1 ?k2 ?k3 ?k4 ?k5 ?kK ?kd ?ku ?kR); (case k1 => k_asm); (case k2 => k_asm); (case k3 => k_asm); (case k4 => first | k_asm | exact cb_drop (by assumption) (by kcj_all)); (case k5 => k_asm); (case kK => first | exact rfl | assumption); (case kd => (dsimp only [ktrTop, Around.deeper] at *; omega)); (case ku => (dsimp only [ktrTop, Around.deeper] at *; omega))))
def ScopeIs (w : World) (osc : Obj) (x : Int) (tka tx : Tok) : Prop := Obj.IsDictOf (PySem.strKind PySem.Challenge.rw_qd0023_05.row.prog w) osc (strPairs [(Value.str (Str.ofString "a") tka, Value.int x tx)]) ∧ PyProof.V.FlatPairs PyData.str (strPairs [(Value.str (Str.ofString "a") tka, Value.int x tx)]) (strData [(Value.str (Str.ofString "a") tka, Value.int x tx)])
theorem evName_is (w : World) (e dx sc l : Addr) (x : Int) (tn t1 tnm tx tka : Tok) (key : Tok) (osc : Obj) (news : List (Addr × Obj)) (hl : (l, tupO [.str (Str.ofString "name") tn, .int 1 t1, .str (Str.ofString "a") tnm]) ∈ news)
    (he : (e, instObj 363 dx) ∈ news) (hdx : (dx, dictOf [⟨PyData.keyHash w.params (Str.ofString "scope"), .str (Str.ofString "scope") key, .ref sc⟩] 1) ∈ news) (hsc : (sc, osc) ∈ news) (lo : (sc == sysModules) = false)
    (hSc : ScopeIs w osc x tka tx) : CallR w 282 [.ref e, .ref l] news 20 100 (.val x) := by
  w_top on
  obtain ⟨hD, hF⟩ := hSc
  k_call_by "my_open" hret
  k_steps
  · exact hret _ _ _ (by k_asm) (cb_drop (by assumption) (by kcj_all))
  · exact absurd (show (Spec.lookup (PyData.str (Str.ofString "a")) (strData [(Value.str (Str.ofString "a") tka, Value.int x tx)])).isSome = true from rfl) (ne_true_of_eq_false (by assumption))
abbrev SignIs (sign : Str) : Prop := sign = Str.ofString "+" ∨ sign = Str.ofString "-" ∨ sign = Str.ofString "*" ∨ sign = Str.ofString "div" ∨ sign = Str.ofString "mod" ∨ sign = Str.ofString "^"
section
local macro_rules | `(tactic| walk_at "ite") => `(tactic| ((with_reducible rename SignIs _ => hsg'); k_dflt (first
  | (refine ite_isFalse ?hb ?_; (case hb => (rcases hsg' with hz' | hz' | hz' | hz' | hz' | hz' <;> (subst hz'; decide +kernel))))
  | (refine ite_pos ?hb ?_; (case hb => (rcases hsg' with hz' | hz' | hz' | hz' | hz' | hz' <;> (subst hz'; decide +kernel)))))))
theorem twoIs (w : World) (sign : Str) (hs : SignIs sign) (e dx sc l r : Addr) (x y : Int) (ts tz tn t1 tnm tx tka ti t2 ty : Tok) (key : Tok) (osc : Obj) (news : List (Addr × Obj)) (hl : (l, tupO [.str (Str.ofString "name") tn, .int 1 t1, .str (Str.ofString "a") tnm]) ∈ news)
    (hr : (r, tupO [.str (Str.ofString "int") ti, .int 2 t2, .int y ty]) ∈ news)
    (he : (e, instObj 363 dx) ∈ news) (hdx : (dx, dictOf [⟨PyData.keyHash w.params (Str.ofString "scope"), .str (Str.ofString "scope") key, .ref sc⟩] 1) ∈ news) (hsc : (sc, osc) ∈ news) (lo : (sc == sysModules) = false)
    (hSc : ScopeIs w osc x tka tx) (hx : Sz 4000 x) (hy : Sz 4000 y) :
    CallR w 313 [.ref e, .str sign ts, .ref l, .ref r, .int 7 tz] news 90 400 (reckA sign x y 7) := by
  w_top on
  all_goals (
    k_call_by "my_open" hret
    k_steps
    k_call_by "app" (evName_is w _ _ _ _ _ _ _ _ _ _ _ _ _ (by k_mem) (by k_mem) (by k_mem) (by k_mem) lo hSc)
    intro t h' tk' F' N'
    dsimp only
    k_fold
    k_steps
    k_call_by "app" (evInt_is w _ _ _ _ _ _ _ (by k_mem))
    intro t h' tk' F' N'
    dsimp only
    k_fold
    k_steps
    k_call_by "app" (number_is w _ _ _ _ news)
    intro t h' tk' F' N'
    dsimp only
    k_fold
    k_steps
    k_call_by "app" (number_is w _ _ _ _ news)
    intro t h' tk' F' N'
    dsimp only
    k_fold
    k_steps
    k_call_by "app" (reck_is w _ _ _ _ _ _ _ _ news hx hy)
    k_call_by "tail" hret)
end
theorem evBin_is (w : World) (sign : Str) (hs : SignIs sign) (e dx sc l r b : Addr) (x y : Int) (ts tz tb tn t1 tnm tx tka ti t2 ty : Tok) (key : Tok) (osc : Obj) (news : List (Addr × Obj)) (hb : (b, tupO [.str (Str.ofString "bin") tb, .int 7 tz, .str sign ts, .ref l, .ref r]) ∈ news) (hl : (l, tupO [.str (Str.ofString "name") tn, .int 1 t1, .str (Str.ofString "a") tnm]) ∈ news)
    (hr : (r, tupO [.str (Str.ofString "int") ti, .int 2 t2, .int y ty]) ∈ news)
    (he : (e, instObj 363 dx) ∈ news) (hdx : (dx, dictOf [⟨PyData.keyHash w.params (Str.ofString "scope"), .str (Str.ofString "scope") key, .ref sc⟩] 1) ∈ news) (hsc : (sc, osc) ∈ news) (lo : (sc == sysModules) = false)
    (hSc : ScopeIs w osc x tka tx) (hx : Sz 4000 x) (hy : Sz 4000 y) :
    CallR w 282 [.ref e, .ref b] news 110 450 (reckA sign x y 7) := by
  w_top on
  k_call_by "my_open" hret
  k_steps
  k_call_by "app" (twoIs w _ hs _ _ _ _ _ _ _ _ _ _ _ _ _ _ _ _ _ _ _ news (by k_mem) (by k_mem) (by k_mem) (by k_mem) (by k_mem) lo hSc hx hy)
  k_call_by "tail" hret
theorem node_is (w : World) (sign : Str) (hs : SignIs sign) (x y : Int) (ts tx ty : Tok) (news : List (Addr × Obj)) (hx : Sz 4000 x) (hy : Sz 4000 y) : CallT w 450 [.str sign ts, .int x tx, .int y ty] news 130 600 (reckA sign x y 7) := by
  w_top on
  k_call_by "try_enter" hret
  k_steps
  (rename Obj.IsDictOf _ _ _ => hdd); (rename PyProof.V.FlatPairs _ _ _ => hfp)
  have hSc : ScopeIs w _ x _ _ := ⟨hdd, hfp⟩
  clear hdd hfp
  k_call_by "appAt" (mkEv_is w _ _)
  intro e dx h' tk' key F1 N1 l1 l2
  dsimp only
  k_fold
  k_steps
  k_call_by "app" (evBin_is w _ hs _ _ _ _ _ _ _ _ _ _ _ _ _ _ _ _ _ _ _ _ _ _ ?m1 ?m2 ?m3 ?m4 ?m5 ?m6 ?lo hSc hx hy)
  case m1 => k_mem
  case m2 => k_mem
  case m3 => k_mem
  case m4 => k_mem
  case m5 => k_mem
  case m6 => k_mem
  case lo => assumption
  k_call_by "caught" hret
-- G7
local macro_rules | `(tactic| k_all) => `(tactic| assumption)
local macro_rules | `(tactic| is_list) => `(tactic| exact News.isList (by assumption) (by k_mem))
def TinIs (w : World) (o : Obj) (c : Addr) (k : Int) : Prop := ∃ t1 t2 tk, Obj.IsDictOf (PySem.strKind PySem.Challenge.rw_qd0023_05.row.prog w) o (strPairs [(Value.str (Str.ofString "cells") t1, Value.ref c), (Value.str (Str.ofString "k") t2, Value.int k tk)])
theorem draw_is (w : World) (d c : Addr) (o : Obj) (k many : Int) (vs : List Value) (ns : List Int) (n : Nat) (tm : Tok) (rest : List (Addr × Obj)) (hT : TinIs w o c k) (lo : (d == sysModules) = false) (hc : (c, listOf vs.toArray n) ∈ rest) (hi : IntsAre vs ns) (hn : ns.length < 64) (hne : ∀ p ∈ rest, p.1 ≠ d) (hm : 0 < many) (hk0 : 0 ≤ k) (hk1 : k ≤ 1000) :
    CallAt w 422 [.ref d, .int many tm] ((d, o) :: rest) 20 100 (fun h₀ L m s Q _ => ∀ v t o' h' tk', 0 ≤ v → v < many → TinIs w o' c (k + 1) → Fr h₀ L h' m → News h₀ L h' ((d, o') :: rest) → Q (.int v t) { s with heap := h', toks := tk' }) := by
  w_top on
  obtain ⟨t1, t2, tkk, hD⟩ := hT
  unfold CallAt; intro dp un gd cn cs a ccd cl outer A₀ base h₀ L m mg mb mean s Q E B F X N T hk hd hu hret; refine wpAny_call ?_; k_dflt cell_enter
  k_steps
  all_goals (try dsimp only)
  all_goals ((rename Fr _ _ _ _ => F9); (try dsimp only at F9))
  all_goals k_steps
  all_goals exact hret _ _ _ _ _ (Int.fmod_nonneg_of_pos _ hm) (Int.fmod_lt_of_pos _ hm) ⟨t1, t2, _, by assumption⟩ (by k_asm) (by k_asm)
-- G8
structure TinAt (w : World) (d c : Addr) (o : Obj) (k : Int) (rest : List (Addr × Obj)) : Prop where
  at_ : ∃ vs ns n, TinIs w o c k ∧ (c, listOf vs.toArray n) ∈ rest ∧ IntsAre vs ns ∧ ns.length < 64
  lo : (d == sysModules) = false
  ne : ∀ p ∈ rest, p.1 ≠ d
  k0 : 0 ≤ k
theorem TinAt.to {w : World} {d c : Addr} {o : Obj} {k k' : Int} {rest : List (Addr × Obj)} (h : TinAt w d c o k rest) (e : k = k') : TinAt w d c o k' rest := e ▸ h
theorem draw_at (w : World) {c : Addr} (d : Addr) (o : Obj) (k many : Int) (tm : Tok) (rest : List (Addr × Obj)) (hT : TinAt w d c o k rest) (hk1 : k ≤ 1000) (hm : 0 < many) :
    CallAt w 422 [.ref d, .int many tm] ((d, o) :: rest) 20 100 (fun h₀ L m s Q _ => ∀ v t o' h' tk', 0 ≤ v → v < many → TinAt w d c o' (k + 1) rest → Fr h₀ L h' m → News h₀ L h' ((d, o') :: rest) → Q (.int v t) { s with heap := h', toks := tk' }) := by
  obtain ⟨⟨vs, ns, n, h1, h2, h3, h4⟩, lo, ne, k0⟩ := hT
  intro dp un gd cn cs a ccd cl outer A₀ base h₀ L m mg mb mean s Q E B F X N T hk hd hu hret
  refine draw_is w d c o k many vs ns n tm rest h1 lo h2 h3 h4 ne hm k0 hk1 dp un gd cn cs a ccd cl outer A₀ base h₀ L m mg mb mean s Q E B F X N T hk hd hu ?_
  intro v t o' h' tk' v0 v1 T' F' N'
  exact hret v t o' h' tk' v0 v1 ⟨⟨vs, ns, n, T', h2, h3, h4⟩, lo, ne, by omega⟩ F' N'
local macro_rules | `(tactic| walk_at "call ref") => `(tactic| ((with_reducible show wpAny _ _ (call (Value.ref 422) _) _ _ _); (k_call_by "appAt" (draw_at _ _ _ _ _ _ _ (by assumption) (by omega) (by first | assumption | omega | decide))); intro vd td od hd tkd dr0 dr1 Td Fd Nd; (try dsimp only); (try k_fold)))
local macro_rules | `(tactic| walk_at "call ref") => `(tactic| ((with_reducible show wpAny _ _ (call (Value.ref 415) _) _ _ _); (k_call_by "app" (rim_is _ _)); intro tr hr tkr Fr_ Nr; (try dsimp only); (try k_fold)))
theorem sm {v : Int} (h1 : -3000 < v) (h2 : v < 3000) : Sz 64 v := szSmall (by omega) (by omega)
theorem rimSz : Sz 3323 rim := szPow (n := 1000) (Nat.le_refl _)
theorem numSz {way near e e2 : Int} (w0 : 0 ≤ way) (w1 : way < 5) (n0 : 0 ≤ near) (n1 : near < 5) (e0 : e < 1000) (f1 : e2 < 100) :
    Sz 3999 ([near - 2 + 2, 10 ^ e.toNat + (near - 2), rim - 1 - (if near - 2 < 0 then -(near - 2) else near - 2), 10 ^ Int.toNat 500 + (near - 2), 10 ^ (900 + e2).toNat].getD way.toNat 0) := by
  have hs : ∀ {v : Int}, -3000 < v → v < 3000 → Sz 3323 v := fun a b => (sm a b).mono (by decide)
  rcases (by omega : way = 0 ∨ way = 1 ∨ way = 2 ∨ way = 3 ∨ way = 4) with rfl | rfl | rfl | rfl | rfl
  · show Sz 3999 (near - 2 + 2); exact (hs (by omega) (by omega)).mono (by decide)
  · show Sz 3999 (10 ^ e.toNat + (near - 2)); exact ((szPow (by omega)).add (hs (by omega) (by omega))).mono (by decide)
  · show Sz 3999 (rim - 1 - (if near - 2 < 0 then -(near - 2) else near - 2))
    exact ((rimSz.sub (hs (by decide) (by decide))).sub ((Sz.abs (hs (by omega) (by omega))).mono (by decide))).mono (by decide)
  · show Sz 3999 (10 ^ Int.toNat 500 + (near - 2)); exact ((szPow (by decide)).add (hs (by omega) (by omega))).mono (by decide)
  · show Sz 3999 (10 ^ (900 + e2).toNat); exact (szPow (by omega)).mono (by decide)
theorem zsub {v : Int} (h : Sz 3999 v) : Sz 4000 (0 - v) := by rw [Int.zero_sub]; exact h.neg.mono (by decide)
theorem number_at (w : World) {c : Addr} (d : Addr) (o : Obj) (k : Int) (rest : List (Addr × Obj)) (hT : TinAt w d c o k rest) (hk1 : k ≤ 900) :
    CallAt w 429 [.ref d] ((d, o) :: rest) 40 200 (fun h₀ L m s Q _ => ∀ v t o' h' tk', Sz 4000 v → TinAt w d c o' (k + 5) rest → Fr h₀ L h' m → News h₀ L h' ((d, o') :: rest) → Q (.int v t) { s with heap := h', toks := tk' }) := by
  w_top on
  unfold CallAt; intro dp un gd cn cs a ccd cl outer A₀ base h₀ L m mg mb mean s Q E B F X N T hk hd hu hret; refine wpAny_call ?_; k_dflt cell_enter
  k_steps
  · exact hret _ _ _ _ _ (zsub (numSz (by assumption) (by assumption) (by assumption) (by assumption) (by assumption) (by assumption))) (TinAt.to (by assumption) (by omega)) (by k_asm) (cb_drop (by assumption) (by kcj_all))
  · exact hret _ _ _ _ _ ((numSz (by assumption) (by assumption) (by assumption) (by assumption) (by assumption) (by assumption)).mono (by decide)) (TinAt.to (by assumption) (by omega)) (by k_asm) (cb_drop (by assumption) (by kcj_all))
theorem baseSz {way near : Int} (w0 : 0 ≤ way) (w1 : way < 3) (n0 : 0 ≤ near) (n1 : near < 12) :
    Sz 3999 ([0, near + 2, 10 ^ (1 + 76 * (near + 2)).toNat + (near + 2)].getD way.toNat 0) := by
  have hs : ∀ {v : Int}, -3000 < v → v < 3000 → Sz 3323 v := fun a b => (sm a b).mono (by decide)
  rcases (by omega : way = 0 ∨ way = 1 ∨ way = 2) with rfl | rfl | rfl
  · show Sz 3999 0; exact (hs (by omega) (by omega)).mono (by decide)
  · show Sz 3999 (near + 2); exact (hs (by omega) (by omega)).mono (by decide)
  · show Sz 3999 (10 ^ (1 + 76 * (near + 2)).toNat + (near + 2)); exact ((szPow (by omega)).add (hs (by omega) (by omega))).mono (by decide)
theorem baseSz0 {near : Int} : Sz 4000 (near.fmod 3 - 1) := by
  have h1 := Int.fmod_nonneg_of_pos near (b := 3) (by decide)
  have h2 := Int.fmod_lt_of_pos near (b := 3) (by decide)
  exact (sm (by omega) (by omega)).mono (by decide)
theorem base_at (w : World) {c : Addr} (d : Addr) (o : Obj) (k : Int) (rest : List (Addr × Obj)) (hT : TinAt w d c o k rest) (hk1 : k ≤ 900) :
    CallAt w 436 [.ref d] ((d, o) :: rest) 40 200 (fun h₀ L m s Q _ => ∀ v t o' h' tk', Sz 4000 v → TinAt w d c o' (k + 3) rest → Fr h₀ L h' m → News h₀ L h' ((d, o') :: rest) → Q (.int v t) { s with heap := h', toks := tk' }) := by
  w_top on
  unfold CallAt; intro dp un gd cn cs a ccd cl outer A₀ base h₀ L m mg mb mean s Q E B F X N T hk hd hu hret; refine wpAny_call ?_; k_dflt cell_enter
  k_steps
  · exact hret _ _ _ _ _ baseSz0 (TinAt.to (by assumption) (by omega)) (by k_asm) (cb_drop (by assumption) (by kcj_all))
  · exact hret _ _ _ _ _ (zsub (baseSz (by assumption) (by assumption) (by assumption) (by assumption))) (TinAt.to (by assumption) (by omega)) (by k_asm) (cb_drop (by assumption) (by kcj_all))
  · exact hret _ _ _ _ _ ((baseSz (by assumption) (by assumption) (by assumption) (by assumption)).mono (by decide)) (TinAt.to (by assumption) (by omega)) (by k_asm) (cb_drop (by assumption) (by kcj_all))
theorem capped_is (w : World) (v : Int) (tv : Tok) (news : List (Addr × Obj)) : CallAt w 457 [.int v tv] news 40 200 (fun h₀ L m s Q _ => ∀ T o h' tk', TupIs (wfA v) o → Fr h₀ L h' m → News h₀ L h' ((T, o) :: news) → Q (.ref T) { s with heap := h', toks := tk' }) := by
  w_top on
  unfold CallAt; intro dp un gd cn cs a ccd cl outer A₀ base h₀ L m mg mb mean s Q E B F X N T hk hd hu hret; refine wpAny_call ?_; k_dflt cell_enter
  k_steps
  · rw [wfA, if_neg (by split <;> omega)] at hret
    exact hret _ _ _ _ ⟨_, _, rfl⟩ (by k_asm) (cb_drop (by assumption) (by kcj_all))
  all_goals (
    rw [wfA, if_pos (by have := rim_pos; split <;> omega)] at hret
    exact hret _ _ _ _ ⟨_, _, rfl⟩ (by k_asm) (cb_drop (by assumption) (by kcj_all)))
-- P9
abbrev ab (v : Int) : Int := if v < 0 then -v else v
theorem ab_eq (v : Int) : ab v = (v.natAbs : Int) := by unfold ab; split <;> omega
theorem rim_ge1 : 1 < rim := by
  have h : (10 : Int) ^ 1 ≤ rim := by
    unfold rim
    have := Nat.pow_le_pow_right (n := 10) (by decide) (show 1 ≤ 1000 by decide)
    exact_mod_cast this
  omega
theorem small_pow {x : Int} (hx : ¬ 1 < ab x) (n : Nat) : ¬ rim ≤ ab (x ^ n) := by
  rw [ab_eq] at *
  have h1 : x.natAbs ≤ 1 := by omega
  have h2 : (x ^ n).natAbs ≤ 1 := by
    rw [Int.natAbs_pow]
    calc x.natAbs ^ n ≤ 1 ^ n := Nat.pow_le_pow_left h1 n
      _ = 1 := Nat.one_pow n
  have := rim_ge1
  omega
theorem pow_mono {x : Int} (hx : 1 < ab x) {i n : Nat} (hi : i ≤ n) : ab (x ^ i) ≤ ab (x ^ n) := by
  rw [ab_eq] at *
  rw [ab_eq, Int.natAbs_pow, Int.natAbs_pow]
  have := Nat.pow_le_pow_right (n := x.natAbs) (by omega) hi
  exact_mod_cast this
theorem loop_lim (a : Int) : ∀ (n : Nat) (f : Int), (∃ i, 1 ≤ i ∧ i ≤ n ∧ rim ≤ ab (f * a ^ i)) → loopA a n f = .limit
  | 0, f, ⟨i, h1, h2, _⟩ => by omega
  | n + 1, f, ⟨i, h1, h2, h3⟩ => by
    rw [loopA]
    by_cases hc : rim ≤ (if f * a < 0 then -(f * a) else f * a)
    · rw [if_pos hc]
    · rw [if_neg hc]
      refine loop_lim a n (f * a) ?_
      by_cases hi : i = 1
      · subst hi; rw [Int.pow_succ, Int.pow_zero, Int.one_mul] at h3; exact absurd h3 hc
      · obtain ⟨j, rfl⟩ : ∃ j, i = j + 1 := ⟨i - 1, by omega⟩
        refine ⟨j, by omega, by omega, ?_⟩
        have e : f * a * a ^ j = f * a ^ (j + 1) := by rw [Int.pow_succ, Int.mul_assoc, Int.mul_comm a]
        rw [e]; exact h3
theorem loop_val (a : Int) : ∀ (n : Nat) (f : Int), (∀ i, 1 ≤ i → i ≤ n → ¬ rim ≤ ab (f * a ^ i)) → loopA a n f = .val (f * a ^ n)
  | 0, f, _ => by rw [loopA, Int.pow_zero, Int.mul_one]
  | n + 1, f, h => by
    rw [loopA, if_neg (by have := h 1 (by omega) (by omega); rwa [Int.pow_succ, Int.pow_zero, Int.one_mul] at this)]
    have e : ∀ j, f * a * a ^ j = f * a ^ (j + 1) := fun j => by rw [Int.pow_succ, Int.mul_assoc, Int.mul_comm a]
    rw [loop_val a n (f * a) fun i h1 h2 => by rw [e]; exact h (i + 1) (by omega) (by omega)]
    rw [e]
theorem pw_limit {x y : Int} {e : Nat} (h0 : ¬ y < 0) (he : e ≤ y.toNat) (hc : rim ≤ ab (x ^ e)) : powA x y 7 = .limit := by
  have hx : 1 < ab x := Decidable.byContradiction fun h => small_pow h e hc
  unfold powA
  by_cases h1 : 1000 < (if y < 0 then -y else y) ∧ 1 < (if x < 0 then -x else x)
  · rw [if_pos h1]
  · rw [if_neg h1, if_neg h0]
    have hN : powN x y = y := if_pos hx
    rw [hN]
    refine loop_lim x _ 1 ⟨e, ?_, he, by rw [Int.one_mul]; exact hc⟩
    refine Nat.pos_of_ne_zero fun q => ?_
    subst q
    rw [Int.pow_zero] at hc
    have := rim_ge1
    have e1 : ab 1 = 1 := rfl
    omega
theorem unit_pow {x : Int} (hx : ¬ 1 < ab x) {y : Int} (h0 : ¬ y < 0) : x ^ (if 2 - y.fmod 2 < y then 2 - y.fmod 2 else y).toNat = x ^ y.toNat := by
  have hx' : x = 0 ∨ x = 1 ∨ x = -1 := by rw [ab_eq] at hx; omega
  have hm : y.fmod 2 = y % 2 := Int.fmod_eq_emod_of_nonneg _ (by decide)
  rw [hm]
  generalize hn : (if 2 - y % 2 < y then 2 - y % 2 else y).toNat = n
  have h1 : n % 2 = y.toNat % 2 ∧ (n = 0 ↔ y.toNat = 0) := by
    subst hn
    split <;> omega
  generalize y.toNat = k at h1 ⊢
  rcases hx' with rfl | rfl | rfl
  · by_cases hk : k = 0
    · rw [hk, h1.2.mpr hk]
    · rw [Int.zero_pow hk, Int.zero_pow (fun q => hk (h1.2.mp q))]
  · rw [Int.one_pow, Int.one_pow]
  · have ev : ∀ j : Nat, (-1 : Int) ^ j = if j % 2 = 0 then 1 else -1 := by
      intro j
      induction j with
      | zero => rfl
      | succ j ih => rw [Int.pow_succ, ih]; split <;> split <;> omega
    rw [ev, ev, h1.1]
theorem pw_val {x y : Int} (h0 : ¬ y < 0) (h1 : ¬ (1000 < (if y < 0 then -y else y) ∧ 1 < (if x < 0 then -x else x))) (hc : ¬ rim ≤ ab (x ^ y.toNat)) : powA x y 7 = .val (x ^ y.toNat) := by
  unfold powA
  rw [if_neg h1, if_neg h0]
  by_cases hx : 1 < ab x
  · have hN : powN x y = y := if_pos hx
    rw [hN, loop_val x _ 1 fun i _ hi => by
      rw [Int.one_mul]
      have := pow_mono hx hi
      omega, Int.one_mul]
  · have hN : powN x y = (if 2 - y.fmod 2 < y then 2 - y.fmod 2 else y) := if_neg hx
    rw [hN, loop_val x _ 1 fun i _ hi => by rw [Int.one_mul]; exact small_pow hx i, Int.one_mul, unit_pow hx h0]
theorem pw_big {x y : Int} (h1 : 1000 < (if y < 0 then -y else y)) (h2 : 1 < (if x < 0 then -x else x)) : powA x y 7 = .limit := by
  unfold powA; rw [if_pos ⟨h1, h2⟩]
theorem pw_bad {y : Int} (h0 : y < 0) : powA 0 y 7 = .bad 7 := by
  unfold powA
  rw [if_neg (fun h => absurd h.2 (by decide)), if_pos h0, quotA, if_pos (by split <;> rfl)]
theorem pw_unit {x y : Int} (h0 : y < 0) (hx : (if x < 0 then -x else x) = 1) : powA x y 7 = .val (if y.fmod 2 = 1 then x else 1) := by
  have hx' : x = 1 ∨ x = -1 := by
    have := ab_eq x
    unfold ab at this
    omega
  unfold powA
  rw [if_neg (fun h => by omega), if_pos h0]
  rcases hx' with rfl | rfl <;> (unfold quotA; split <;> rfl)
theorem pw_none {x y : Int} (h0 : y < 0) (hx0 : x ≠ 0) (hx : (if x < 0 then -x else x) ≠ 1) (hl : ¬ (1000 < (if y < 0 then -y else y) ∧ 1 < (if x < 0 then -x else x))) : powA x y 7 = .val 0 := by
  have h2 : 1 < x.natAbs := by
    have := ab_eq x
    unfold ab at this
    omega
  have td : ∀ z : Int, 1 < z.natAbs → (1 : Int).tdiv z = 0 := fun z hz => by
    have : ((1 : Int).tdiv z).natAbs = 0 := by rw [Int.natAbs_tdiv]; exact Nat.div_eq_of_lt hz
    omega
  unfold powA
  rw [if_neg hl, if_pos h0]
  have h3 : 1 < (x * x).natAbs := by
    rw [Int.natAbs_mul]
    have := Nat.mul_le_mul h2 h2
    omega
  by_cases hm : y.fmod 2 = 1
  · rw [if_pos hm, quotA, if_neg hx0, td x h2]
  · rw [if_neg hm, quotA, if_neg (fun q => by rw [q] at h3; simp at h3), td _ h3]
-- G9
section -- G9
def big : Int := 2 ^ 110
def unb (bits : List Int) (b : Int) : Int := bits.foldr (fun t acc => 2 * acc + t) b
def WInv (y : Int) (bits : List Int) (b : Int) : Prop := y < big ∧ 0 ≤ b ∧ (∀ t ∈ bits, t = 0 ∨ t = 1) ∧ unb bits b = y
theorem unb_ge : ∀ (bits : List Int) (b : Int), 0 ≤ b → (∀ t ∈ bits, t = 0 ∨ t = 1) → b * 2 ^ bits.length ≤ unb bits b ∧ 0 ≤ unb bits b
  | [], b, hb, _ => ⟨by simp [unb], hb⟩
  | t :: r, b, hb, h => by
    obtain ⟨ih, ih0⟩ := unb_ge r b hb (fun x hx => h x (.tail _ hx))
    have ht := h t (.head _)
    have e : unb (t :: r) b = 2 * unb r b + t := rfl
    rw [e, List.length_cons, Int.pow_succ]
    constructor
    · have : b * (2 ^ r.length * 2) = 2 * (b * 2 ^ r.length) := by rw [Int.mul_comm (2 ^ r.length) 2, ← Int.mul_assoc, Int.mul_comm b 2, Int.mul_assoc]
      rw [this]
      rcases ht with rfl | rfl <;> omega
    · rcases ht with rfl | rfl <;> omega
theorem WInv.len {y : Int} {bits : List Int} {b : Int} (h : WInv y bits b) (hb : 0 < b) : bits.length < 110 := by
  obtain ⟨h1, _, h3, h4⟩ := h
  have h5 := (unb_ge bits b (by omega) h3).1
  rw [h4] at h5
  refine Nat.lt_of_not_le fun hl => ?_
  have h6 : big ≤ 2 ^ bits.length := by
    unfold big
    have := Nat.pow_le_pow_right (n := 2) (by decide) hl
    exact_mod_cast this
  have h7 : (2 : Int) ^ bits.length ≤ b * 2 ^ bits.length := by
    have h8 : (0 : Int) < 2 ^ bits.length := Int.pow_pos (by decide)
    have := Int.mul_le_mul_of_nonneg_right (show (1 : Int) ≤ b by omega) (Int.le_of_lt h8)
    rwa [Int.one_mul] at this
  exact absurd (Int.lt_of_lt_of_le h1 h6) (Int.not_lt.mpr (Int.le_trans h7 h5))
theorem fdiv2 (b : Int) : b.fdiv 2 = b / 2 := Int.fdiv_eq_ediv_of_nonneg _ (by decide)
theorem fmod2 (b : Int) : b.fmod 2 = b % 2 := Int.fmod_eq_emod_of_nonneg _ (by decide)
theorem WInv.start {y : Int} (hy : y < big) (h0 : ¬ y < 0) : WInv y [] y ∧ ([] : List Int).length ≤ 110 := ⟨⟨hy, by omega, by simp, rfl⟩, by decide⟩
theorem WInv.next {y : Int} {bits : List Int} {b : Int} (h : WInv y bits b ∧ bits.length ≤ 110) (hb : 0 < b) : WInv y (bits ++ [b.fmod 2]) (b.fdiv 2) ∧ (bits ++ [b.fmod 2]).length ≤ 110 := by
  have hl := h.1.len hb
  obtain ⟨⟨h1, h2, h3, h4⟩, _⟩ := h
  refine ⟨⟨h1, by rw [fdiv2]; omega, ?_, ?_⟩, by simp; omega⟩
  · intro t ht
    rcases List.mem_append.mp ht with ht | ht
    · exact h3 t ht
    · rw [List.mem_singleton.mp ht, fmod2]; omega
  · rw [← h4]
    unfold unb
    rw [List.foldr_append]
    congr 1
    show 2 * b.fdiv 2 + b.fmod 2 = b
    rw [fdiv2, fmod2]; omega
theorem WLess {b : Int} (hb : 0 < b) : (b.fdiv 2).toNat < b.toNat := by rw [fdiv2]; omega
def PInv (x : Int) (pre : List Int) (f : Int) : Prop := 0 ≤ unb pre.reverse 0 ∧ f = x ^ (unb pre.reverse 0).toNat ∧ ¬ rim ≤ (if f < 0 then -f else f)
theorem PInv.start {x : Int} : PInv x [] 1 := ⟨by simp [unb], by simp [unb], by have := rim_ge1; simp; omega⟩
theorem PInv.sz {x f : Int} {pre : List Int} (h : PInv x pre f) : Sz 3322 f := Sz.ofRim h.2.2
theorem unb_cons (t : Int) (r : List Int) : unb (t :: r) 0 = 2 * unb r 0 + t := rfl
theorem PInv.one {x f k : Int} {pre : List Int} (h : PInv x pre f) (e : k = 1) : 0 ≤ unb (pre ++ [k]).reverse 0 ∧ f * f * x = x ^ (unb (pre ++ [k]).reverse 0).toNat := by
  obtain ⟨h0, h1, _⟩ := h
  rw [List.reverse_append, List.reverse_singleton, List.singleton_append, unb_cons, e]
  refine ⟨by omega, ?_⟩
  have e2 : (2 * unb pre.reverse 0 + 1).toNat = (unb pre.reverse 0).toNat + (unb pre.reverse 0).toNat + 1 := by omega
  rw [e2, Int.pow_succ, Int.pow_add, ← h1]
theorem PInv.zero {x f k : Int} {pre : List Int} (h : PInv x pre f) (e : k ≠ 1) (hk : k = 0 ∨ k = 1) : 0 ≤ unb (pre ++ [k]).reverse 0 ∧ f * f * 1 = x ^ (unb (pre ++ [k]).reverse 0).toNat := by
  obtain ⟨h0, h1, _⟩ := h
  have e0 : k = 0 := hk.resolve_right e
  rw [List.reverse_append, List.reverse_singleton, List.singleton_append, unb_cons, e0]
  refine ⟨by omega, ?_⟩
  have e2 : (2 * unb pre.reverse 0 + 0).toNat = (unb pre.reverse 0).toNat + (unb pre.reverse 0).toNat := by omega
  rw [e2, Int.pow_add, ← h1, Int.mul_one]
theorem PInv.next1 {x f k : Int} {pre : List Int} (h : PInv x pre f) (e : k = 1) (hc : ¬ rim ≤ (if f * f * x < 0 then -(f * f * x) else f * f * x)) : PInv x (pre ++ [k]) (f * f * x) := ⟨(h.one e).1, (h.one e).2, hc⟩
theorem PInv.next0 {x f k : Int} {pre : List Int} (h : PInv x pre f) (e : k ≠ 1) (hk : k = 0 ∨ k = 1) (hc : ¬ rim ≤ (if f * f * 1 < 0 then -(f * f * 1) else f * f * 1)) : PInv x (pre ++ [k]) (f * f * 1) := ⟨(h.zero e hk).1, (h.zero e hk).2, hc⟩
theorem bitOf {y b k : Int} {bits : List Int} {P : Prop} (h : WInv y bits b ∧ P) (hk : k ∈ bits.reverse) : k = 0 ∨ k = 1 := h.1.2.2.1 k (List.mem_reverse.mp hk)
theorem unb_app (r r' : List Int) : unb (r ++ r') 0 = unb r (unb r' 0) := by unfold unb; rw [List.foldr_append]
theorem preLe {y b k : Int} {bits pre post : List Int} {P : Prop} (h : WInv y bits b ∧ P) (hb : ¬ 0 < b) (kEq : bits.reverse = pre ++ k :: post) : (unb (pre ++ [k]).reverse 0).toNat ≤ y.toNat := by
  obtain ⟨⟨_, h2, h3, h4⟩, _⟩ := h
  have b0 : b = 0 := by omega
  subst b0
  have e : bits = post.reverse ++ (pre ++ [k]).reverse := by
    have := congrArg List.reverse kEq
    rw [List.reverse_reverse] at this
    rw [this]
    simp
  have hs : ∀ t ∈ (pre ++ [k]).reverse, t = 0 ∨ t = 1 := fun t ht => h3 t (by rw [e]; exact List.mem_append_right _ ht)
  have hs' : ∀ t ∈ post.reverse, t = 0 ∨ t = 1 := fun t ht => h3 t (by rw [e]; exact List.mem_append_left _ ht)
  have n0 := (unb_ge (pre ++ [k]).reverse 0 (by omega) hs).2
  have := (unb_ge post.reverse (unb (pre ++ [k]).reverse 0) n0 hs').1
  rw [← unb_app, ← e, h4] at this
  have p1 : (1 : Int) ≤ 2 ^ post.reverse.length := by
    have hq : (0 : Int) < 2 ^ post.reverse.length := Int.pow_pos (show (0 : Int) < 2 by decide)
    omega
  have p2 := Int.mul_le_mul_of_nonneg_left p1 n0
  rw [Int.mul_one] at p2
  omega
theorem limitAt1 {x y b k f : Int} {bits pre post : List Int} {P : Prop} (hP : PInv x pre f) (h : WInv y bits b ∧ P) (hb : ¬ 0 < b) (kEq : bits.reverse = pre ++ k :: post) (e : k = 1) (hc : rim ≤ (if f * f * x < 0 then -(f * f * x) else f * f * x)) (h0 : ¬ y < 0) : powA x y 7 = .limit :=
  pw_limit h0 (preLe h hb kEq) (by rw [← (hP.one e).2]; exact hc)
theorem limitAt0 {x y b k f : Int} {bits pre post : List Int} {P : Prop} (hP : PInv x pre f) (h : WInv y bits b ∧ P) (hb : ¬ 0 < b) (kEq : bits.reverse = pre ++ k :: post) (e : k ≠ 1) (hc : rim ≤ (if f * f * 1 < 0 then -(f * f * 1) else f * f * 1)) (h0 : ¬ y < 0) : powA x y 7 = .limit :=
  pw_limit h0 (preLe h hb kEq) (by rw [← (hP.zero e (bitOf h (by rw [kEq]; exact List.mem_append_right _ (.head _)))).2]; exact hc)
theorem doneAt {x y b f : Int} {bits : List Int} {P : Prop} (hP : PInv x bits.reverse f) (h : WInv y bits b ∧ P) (hb : ¬ 0 < b) (h0 : ¬ y < 0) (h1 : ¬ (1000 < (if y < 0 then -y else y) ∧ 1 < (if x < 0 then -x else x))) : powA x y 7 = .val f := by
  obtain ⟨⟨_, h2, h3, h4⟩, _⟩ := h
  have b0 : b = 0 := by omega
  subst b0
  obtain ⟨_, p1, p2⟩ := hP
  rw [List.reverse_reverse, h4] at p1
  rw [p1] at p2 ⊢
  exact pw_val h0 h1 p2
local macro_rules | `(tactic| walk_at "sz") => `(tactic| exact Sz.mono (PInv.sz (by assumption)) (by decide))
abbrev BitsS := List Value × Nat × List Int × Int × Tok
abbrev bitsLed (l : Addr) (news : List (Addr × Obj)) (c : BitsS) : List (Addr × Obj) := (l, listOf c.1.toArray c.2.1) :: news
abbrev bitsPs (c : BitsS) : List (Str × Value) := [(Str.ofString "b", .int c.2.2.2.1 c.2.2.2.2)]
abbrev bitsFa (c : BitsS) : Prop := IntsAre c.1 c.2.2.1
abbrev bitsP (y : Int) (c : BitsS) : Prop := WInv y c.2.2.1 c.2.2.2.1 ∧ c.2.2.1.length ≤ 110
abbrev bitsM (c : BitsS) : Nat := c.2.2.2.1.toNat
theorem while_bits {prog : Program} {w : World} {A : Around} {E : Value → Shared → Prop} {Q : Flow → Shared → Prop} {s : Shared} {env : Env} {h₀ : Heap} {L l D : Addr} {oD : Obj} {n₀ : Nat} {news : List (Addr × Obj)} {m₀ : Str → Option Value} {test : Expr} {body : List Stmt} {pos : Pos} {y : Int} {t0 : Tok}
    (F : Fr h₀ L s.heap m₀) (N : News h₀ L s.heap ((D, oD) :: (l, listOf #[] n₀) :: news)) (hb : m₀ (Str.ofString "b") = some (.int y t0)) (hp : WInv y [] y ∧ ([] : List Int).length ≤ 110)
    (turn : ∀ (vs : List Value) (n : Nat) (bits : List Int) (b : Int) (tb : Tok) (u : Str → Option Value) h tk, IntsAre vs bits → (WInv y bits b ∧ bits.length ≤ 110) → Fr h₀ L h (fun z => if z = Str.ofString "b" then some (.int b tb) else m₀ z) → News h₀ L h ((l, listOf vs.toArray n) :: news) →
      wpAny (model prog w) A (isTrue test env (eval test env)) (fun b' s₂ =>
        if b' = true then wpAny (model prog w) A (execs body env) (KswPost h₀ L s (bitsLed l news) bitsPs bitsFa [] m₀ (bitsP y) bitsM Q (vs, n, bits, b, tb)) E s₂ else Q .next s₂) E { s with heap := h, toks := tk })
    (hE : PassesOwn (model prog w) A env E := by passes_own) :
    wpAny (model prog w) A (exec (.While test body [] pos) env) Q E s := by
  refine ksw_while (bitsLed l news) bitsPs bitsFa [] (bitsP y) bitsM ([], n₀, [], y, t0) F (fun p hp => N p (.tail _ hp)) .nil ?_ hp ?_ hE
  · intro p hp
    rw [List.mem_singleton.mp hp]; exact hb
  · rintro ⟨vs, n, bits, b, tb⟩ u h tk hf hP F' N'
    refine turn vs n bits b tb u h tk hf hP ?_ N'
    have e : kstB (fun z => if ([] : List Str).contains z then u z else m₀ z) (bitsPs (vs, n, bits, b, tb)) = (fun z => if z = Str.ofString "b" then some (.int b tb) else m₀ z) := by
      funext z
      simp [bitsPs, kstB]
    rw [e] at F'
    exact F'
theorem bits_end {h₀ : Heap} {L l : Addr} {s : Shared} {news : List (Addr × Obj)} {m₀ m' : Str → Option Value} {y b b' : Int} {tb tb' : Tok} {vs vs' : List Value} {n n' : Nat} {bits bits' : List Int} {h' : Heap} {tk : Nat}
    (F : Fr h₀ L h' m') (N : News h₀ L h' ((l, listOf vs'.toArray n') :: news)) (hi : IntsAre vs' bits') (hb : m' (Str.ofString "b") = some (.int b' tb')) (hr : ∀ z, z ≠ Str.ofString "b" → m' z = m₀ z) (hp : WInv y bits' b' ∧ bits'.length ≤ 110) (hm : b'.toNat < b.toNat) :
    KswEnd h₀ L s (bitsLed l news) bitsPs bitsFa [] m₀ (bitsP y) bitsM (vs, n, bits, b, tb) { s with heap := h', toks := tk } :=
  ksw_end (vs', n', bits', b', tb') F N (fun p hp => hp) hi (fun p hp => by rw [List.mem_singleton.mp hp]; exact hb) (fun z hz _ => hr z (hz _ (.head _))) hp hm
local macro_rules | `(tactic| walk_at "pyIter ref") => `(tactic| k_extra "pyIter ref")
local macro_rules | `(tactic| walk_at "exec While Compare cons nil") => `(tactic| ((rename Fr _ _ _ _ => lF'); (rename News _ _ _ _ => lN'); k_dflt (refine' while_bits lF' lN' ?hb ?hp ?_ (by passes_own); (case hb => rfl); (case hp => exact WInv.start (by assumption) (by assumption))); (try clear lF' lN'); intro vsB nB bitsB bB tbB uB hB tkB hiB hpB FB NB; (try k_fold)))
local macro_rules | `(tactic| walk_at "KswEnd") => `(tactic| ((rename News _ _ _ _ => nE'); (try simp only [List.push_toArray] at nE'); (refine bits_end (by assumption) nE' (IntsAre.append (by assumption) (.cons _ _ .nil)) rfl (by intro z hz; simp [hz]) (WInv.next (by assumption) (by assumption)) (WLess (by assumption)))))
local macro_rules | `(tactic| walk_at "call builtin:list.append") => `(tactic| (dsimp only; k_dflt (refine' append_K ?k1 ?k2 ?k3 ?_ ?z; (case k1 => k_asm); (case k2 => k_asm); (case k3 => k_upd); (case z => exact bitsFit (by assumption) (by assumption))); intro h' F' N'))
local macro_rules | `(tactic| k_all) => `(tactic| exact fun p hp => Nat.ne_of_lt ((by assumption : ∀ q ∈ _, Prod.fst q < _) p hp))
local macro_rules | `(tactic| walk_at "exec For Name Subscript cons nil") => `(tactic| (k_here; (rename Fr _ _ _ _ => lF'); (with_unfolding_all refine' For_invVF lF' ?k1 ?k2 ?_; (case k1 => exact rfl); (case k2 => exact rfl); k_whole)))
theorem bitsFit {y b : Int} {bits : List Int} {vs : List Value} (h : WInv y bits b ∧ bits.length ≤ 110) (hi : IntsAre vs bits) : vs.toArray.size ≤ sizeLine := by
  have := IntsAre.length hi
  have e := sizeLine_eq
  rw [List.size_toArray, e]
  omega
theorem lawpow_is (w : World) (x y : Int) (tx ty : Tok) (news : List (Addr × Obj)) (hx : Sz 4000 x) (hy : y < big) : CallAt w 464 [.int x tx, .int y ty] news 40 200 (fun h₀ L m s Q _ => ∀ T o h' tk', TupIs (powA x y 7) o → Fr h₀ L h' m → News h₀ L h' ((T, o) :: news) → Q (.ref T) { s with heap := h', toks := tk' }) := by
  w_top on
  k_with "pyIter ref" => k_state (fun pre found => PInv x pre found) "found"
  k_with "state" => first | exact PInv.start | exact PInv.next1 (by assumption) (by assumption) (by assumption) | exact PInv.next0 (by assumption) (by assumption) (bitOf (by assumption) (by assumption)) (by assumption)
  unfold CallAt; intro dp un gd cn cs a ccd cl outer A₀ base h₀ L m mg mb mean s Q E B F X N T hk hd hu hret; refine wpAny_call ?_; k_dflt cell_enter
  k_steps
  all_goals first
    | (rw [pw_big (by assumption) (by assumption)] at hret; exact hret _ _ _ _ ⟨_, _, rfl⟩ (by k_asm) (cb_drop (by assumption) (by kcj_all)))
    | (rw [limitAt1 (by assumption) (by assumption) (by assumption) (by assumption) (by assumption) (by assumption) (by assumption)] at hret; exact hret _ _ _ _ ⟨_, _, rfl⟩ (by k_asm) (cb_drop (by assumption) (by kcj_all)))
    | (rw [limitAt0 (by assumption) (by assumption) (by assumption) (by assumption) (by assumption) (by assumption) (by assumption)] at hret; exact hret _ _ _ _ ⟨_, _, rfl⟩ (by k_asm) (cb_drop (by assumption) (by kcj_all)))
    | (rw [doneAt (by assumption) (by assumption) (by assumption) (by assumption) (by first | exact (fun h => absurd h.1 (by assumption)) | exact (fun h => absurd h.2 (by assumption)))] at hret; exact hret _ _ _ _ ⟨_, _, rfl⟩ (by k_asm) (cb_drop (by assumption) (by kcj_all)))
    | ((rename x = 0 => hx0); subst hx0; rw [pw_bad (by assumption)] at hret; exact hret _ _ _ _ ⟨_, _, rfl⟩ (by k_asm) (cb_drop (by assumption) (by kcj_all)))
    | (rw [pw_unit (by assumption) (by assumption), if_pos (by assumption)] at hret; exact hret _ _ _ _ ⟨_, _, rfl⟩ (by k_asm) (cb_drop (by assumption) (by kcj_all)))
    | (rw [pw_unit (by assumption) (by assumption), if_neg (by assumption)] at hret; exact hret _ _ _ _ ⟨_, _, rfl⟩ (by k_asm) (cb_drop (by assumption) (by kcj_all)))
    | (rw [pw_none (by assumption) (by assumption) (by assumption) (by first | exact (fun h => absurd h.1 (by assumption)) | exact (fun h => absurd h.2 (by assumption)))] at hret; exact hret _ _ _ _ ⟨_, _, rfl⟩ (by k_asm) (cb_drop (by assumption) (by kcj_all)))
    | (exfalso; omega)
    | skip
  all_goals (
    dsimp only
    k_dflt (refine' append_K ?k1 ?k2 ?k3 ?_ ?z)
    case k1 => k_asm
    case k2 => k_asm
    case k3 => k_upd
    case z => exact bitsFit (by assumption) (by assumption)
    intro h' F' N'
    dsimp only
    k_steps)
end -- G9
-- Ga1
theorem boolUp {Q : Value → Shared → Prop} {s : Shared} {b : Bool} (h : Q (.bool true) s) (e : b = true) : Q (.bool b) s := e ▸ h
theorem abN (v : Int) : (if v < 0 then -v else v) = (v.natAbs : Int) := ab_eq v
theorem restIs (x y : Int) : x - y * x.tdiv y = x.tmod y := by have := Int.mul_tdiv_add_tmod x y; omega
theorem mod1 {x y v : Int} (hy : y ≠ 0) (hv : v = x - y * x.tdiv y) : (if v < 0 then -v else v) < (if y < 0 then -y else y) := by
  rw [abN, abN, hv, restIs, Int.natAbs_tmod]
  have := Nat.mod_lt x.natAbs (show 0 < y.natAbs by omega)
  omega
theorem mod2 {x y v : Int} (hy : y ≠ 0) (hv : v = x - y * x.tdiv y) : (x - v).fmod (if y < 0 then -y else y) = 0 := by
  have e : x - v = y * x.tdiv y := by omega
  rw [e, Int.fmod_eq_zero_of_dvd]
  split
  · exact Int.neg_dvd.mpr (Int.dvd_mul_right y _)
  · exact Int.dvd_mul_right y _
theorem mod3 {x y v : Int} (hv0 : v ≠ 0) (hv : v = x - y * x.tdiv y) : (v < 0 ↔ x < 0) := by
  rw [restIs] at hv
  subst hv
  rcases Int.lt_or_le x 0 with hx | hx
  · have : x.tmod y ≤ 0 := by
      have h := Int.tmod_nonneg (a := -x) y (by omega)
      rw [Int.neg_tmod] at h
      omega
    omega
  · have := Int.tmod_nonneg (a := x) y hx
    omega
theorem div0 {x y v : Int} (hv : v = x.tdiv y) : (if v < 0 then -v else v) = ((x.natAbs / y.natAbs : Nat) : Int) := by rw [abN, hv, Int.natAbs_tdiv]; rfl
theorem div1 {x y v : Int} (hy : y ≠ 0) (hv : v = x.tdiv y) : 0 ≤ (if x < 0 then -x else x) - (if v < 0 then -v else v) * (if y < 0 then -y else y) ∧ (if x < 0 then -x else x) - (if v < 0 then -v else v) * (if y < 0 then -y else y) < (if y < 0 then -y else y) := by
  rw [div0 hv, abN, abN]
  have h1 := Nat.div_add_mod x.natAbs y.natAbs
  have h2 := Nat.mod_lt x.natAbs (show 0 < y.natAbs by omega)
  rw [Nat.mul_comm] at h1
  have h3 : ((x.natAbs / y.natAbs : Nat) : Int) * (y.natAbs : Int) = ((x.natAbs / y.natAbs * y.natAbs : Nat) : Int) := by push_cast; rfl
  rw [h3]
  omega
theorem div3 {x y v : Int} (hv0 : v ≠ 0) (hv : v = x.tdiv y) : (v < 0 ↔ ¬ (x < 0 ↔ y < 0)) := by
  subst hv
  rcases Int.lt_or_le x 0 with hx | hx <;> rcases Int.lt_or_le y 0 with hy | hy
  · have h := Int.tdiv_nonneg (a := -x) (b := -y) (by omega) (by omega)
    rw [Int.neg_tdiv_neg] at h; omega
  · have h := Int.tdiv_nonneg (a := -x) (b := y) (by omega) hy
    rw [Int.neg_tdiv] at h; omega
  · have h := Int.tdiv_nonneg (a := x) (b := -y) hx (by omega)
    rw [Int.tdiv_neg] at h; omega
  · have h := Int.tdiv_nonneg hx hy; omega
theorem div4 {x y v : Int} (hv0 : v ≠ 0) (hv : v = x.tdiv y) : (decide (v < 0) == (decide (x < 0) != decide (y < 0))) = true := by
  have h3 := div3 hv0 hv
  by_cases q1 : v < 0 <;> by_cases q2 : x < 0 <;> by_cases q3 : y < 0 <;> (first | (exfalso; omega) | (simp only [q1, q2, q3, decide_true, decide_false]; rfl))
theorem mod4 {x y v : Int} (hv0 : v ≠ 0) (hv : v = x - y * x.tdiv y) : (decide (v < 0) == decide (x < 0)) = true := by
  have h3 := mod3 hv0 hv
  by_cases q1 : v < 0 <;> by_cases q2 : x < 0 <;> (first | (exfalso; omega) | (simp only [q1, q2, decide_true, decide_false]; rfl))
theorem shared_bad (w : World) (sign : Str) (D : Addr) (t1 t2 : Tok) (x : Int) (ts tx ty : Tok) (news : List (Addr × Obj)) (hD : (D, tup2 (.str (Str.ofString "bad") t1) (.int 7 t2)) ∈ news) :
    CallAt w 471 [.str sign ts, .ref D, .int x tx, .int 0 ty] news 40 200 (fun h₀ L m s Q _ => ∀ h' tk', Fr h₀ L h' m → News h₀ L h' news → Q (.bool true) { s with heap := h', toks := tk' }) := by
  w_top on
  unfold CallAt; intro dp un gd cn cs a ccd cl outer A₀ base h₀ L m mg mb mean s Q E B F X N T hk hd hu hret; refine wpAny_call ?_; k_dflt cell_enter
  k_steps
  exact hret _ _ (by k_asm) (cb_drop (by assumption) (by kcj_all))
theorem shared_val (w : World) (sign : Str) (D : Addr) (t1 t2 : Tok) (x y v : Int) (ts tx ty : Tok) (news : List (Addr × Obj)) (hy : y ≠ 0) (hx : Sz 4000 x) (hsy : Sz 4000 y) (hv : Sz 4000 v) (hq : v = if (sign == Str.ofString "mod") = true then x - y * x.tdiv y else x.tdiv y) (hD : (D, tup2 (.str (Str.ofString "told") t1) (.int v t2)) ∈ news) :
    CallAt w 471 [.str sign ts, .ref D, .int x tx, .int y ty] news 40 200 (fun h₀ L m s Q _ => ∀ h' tk', Fr h₀ L h' m → News h₀ L h' news → Q (.bool true) { s with heap := h', toks := tk' }) := by
  w_top on
  unfold CallAt; intro dp un gd cn cs a ccd cl outer A₀ base h₀ L m mg mb mean s Q E B F X N T hk hd hu hret; refine wpAny_call ?_; k_dflt cell_enter
  k_steps
  all_goals refine boolUp (hret _ _ (by k_asm) (cb_drop (by assumption) (by kcj_all))) ?_
  all_goals first
    | exact absurd (by assumption : y = 0) hy
    | (rw [if_pos (by assumption)] at hq; first
      | exact decide_eq_true (mod1 hy hq)
      | exact beq_iff_eq.mpr (mod2 hy hq)
      | exact beq_iff_eq.mpr (by assumption)
      | exact mod4 (by assumption) hq)
    | (rw [if_neg (ne_true_of_eq_false (by assumption))] at hq; first
      | exact decide_eq_true (div1 hy hq).1
      | exact decide_eq_true (div1 hy hq).2
      | exact beq_iff_eq.mpr (by assumption)
      | exact div4 (by assumption) hq)
-- Gb1
def TupData : Ans → PyData
  | .val i => .tuple [.str (Str.ofString "told"), .int i]
  | .limit => .tuple [.str (Str.ofString "limit"), .int 0]
  | .bad z => .tuple [.str (Str.ofString "bad"), .int z]
theorem TupIs.reads {r : Ans} {o : Obj} {h : Heap} {a : Addr} (ho : h.get? a = some o) (hr : TupIs r o) : Reads h (.ref a) (TupData r) [] := by
  cases r <;> (obtain ⟨t1, t2, rfl⟩ := hr; exact reads_tuple_at ho rfl rfl (.cons (.str _ _) (.cons (.int _ _) .nil)))
theorem tupShaped (r : Ans) : PySem.SeqAt.shaped (TupData r) = true := by cases r <;> simp [TupData, PySem.SeqAt.shaped, PyData.canLay0, PyData.canLayAll0, PyData.depth, PyData.depthAll] <;> decide +kernel
theorem tupEqv (r : Ans) : PyData.eqv (TupData r) (TupData r) = true := by cases r <;> simp [TupData, PyData.eqv, PyData.eqvAll]
theorem neTup {prog : Program} {w : World} {A : Around} {E : Value → Shared → Prop} {s : Shared} {h₀ : Heap} {L T1 T2 : Addr} {o1 o2 : Obj} {news : List (Addr × Obj)} {r1 r2 : Ans} {Q : Value → Shared → Prop}
    (N : News h₀ L s.heap news) (h1 : (T1, o1) ∈ news) (h2 : (T2, o2) ∈ news) (hr1 : TupIs r1 o1) (hr2 : TupIs r2 o2) (hr : r1 = r2) (hu : A.units + 64 < cLine) (h : Q (.bool false) s) :
    wpAny (model prog w) A (compareOp .NotEq (.ref T1) (.ref T2)) Q E s := by
  subst hr
  refine ne_dataH (hr1.reads (N _ h1).1) (hr2.reads (N _ h2).1) (tupShaped _) (tupShaped _) hu ?_
  rw [tupEqv]; exact h
theorem tolds (sign : Str) (hs : SignIs sign) (x y : Int) : toldA sign x y = reckA sign x y 7 := by
  unfold toldA
  rcases hs with rfl | rfl | rfl | rfl | rfl | rfl
  · rfl
  · rfl
  · rfl
  · by_cases h : x.fmod 2 = 0
    · rw [if_neg (by decide), if_pos ⟨by decide, h⟩]; rfl
    · rw [if_neg (by decide), if_neg (fun q => h q.2)]
  · rfl
  · rfl
theorem toldPow (x y : Int) : toldA (Str.ofString "^") x y = powA x y 7 := rfl
theorem reckPow (x y : Int) : reckA (Str.ofString "^") x y 7 = powA x y 7 := rfl
theorem reckDiv (x y : Int) : reckA (Str.ofString "div") x y 7 = if y = 0 then .bad 7 else .val (x.tdiv y) := rfl
theorem reckMod (x y : Int) : reckA (Str.ofString "mod") x y 7 = if y = 0 then .bad 7 else .val (x - y * x.tdiv y) := rfl
theorem szMod {x y : Int} (hx : Sz 4000 x) : Sz 4000 (x - y * x.tdiv y) := by
  rw [restIs]
  refine hx.le ?_
  rw [Int.natAbs_tmod]
  exact Nat.mod_le _ _
theorem shared_is (w : World) (sign : Str) (hs : sign = Str.ofString "div" ∨ sign = Str.ofString "mod") (D : Addr) (o : Obj) (x y : Int) (ts tx ty : Tok) (news : List (Addr × Obj)) (hx : Sz 4000 x) (hy : Sz 4000 y) (hD : (D, o) ∈ news) (hr : TupIs (toldA sign x y) o) :
    CallAt w 471 [.str sign ts, .ref D, .int x tx, .int y ty] news 40 200 (fun h₀ L m s Q _ => ∀ h' tk', Fr h₀ L h' m → News h₀ L h' news → Q (.bool true) { s with heap := h', toks := tk' }) := by
  rw [tolds sign (by rcases hs with rfl | rfl <;> simp [SignIs])] at hr
  by_cases h0 : y = 0
  · subst h0
    have hb : TupIs (.bad 7) o := by rcases hs with rfl | rfl <;> exact hr
    obtain ⟨t1, t2, rfl⟩ := hb
    exact shared_bad w sign D t1 t2 x ts tx ty news hD
  · rcases hs with rfl | rfl
    · rw [reckDiv, if_neg h0] at hr
      obtain ⟨t1, t2, rfl⟩ := hr
      exact shared_val w _ D t1 t2 x y _ ts tx ty news h0 hx hy (Sz.tdiv hx _) (by rw [if_neg (by decide)]) hD
    · rw [reckMod, if_neg h0] at hr
      obtain ⟨t1, t2, rfl⟩ := hr
      exact shared_val w _ D t1 t2 x y _ ts tx ty news h0 hx hy (szMod hx) (by rw [if_pos (by decide)]) hD
-- Gf
section -- Gf
local macro_rules | `(tactic| k_call_by "app" $t) => `(tactic| (k_dflt (refine' $t _ _ _ _ _ _ _ _ _ _ _ _ _ _ _ _ _ _ _ _ ?k1 ?k2 ?k3 ?k4 ?k5 ?kK ?kd ?ku ?kR); (case k1 => k_asm); (case k2 => k_asm); (case k3 => k_asm); (case k4 => first | with_reducible assumption | with_reducible exact newsTail (by assumption) | with_reducible exact newsTail (newsTail (by assumption)) | exact cb_drop (by with_reducible assumption) (by kcj_all)); (case k5 => k_asm); (case kK => first | exact rfl | assumption); (case kd => (dsimp only [ktrTop] at *; omega)); (case ku => (dsimp only [ktrTop] at *; omega))))
local macro_rules | `(tactic| k_call_by "appAt" $t) => `(tactic| (k_dflt (refine' $t _ _ _ _ _ _ _ _ _ _ _ _ _ _ _ _ _ _ _ _ ?k1 ?k2 ?k3 ?k4 ?k5 ?kK ?kd ?ku ?kR); (case k1 => k_asm); (case k2 => k_asm); (case k3 => k_asm); (case k4 => first | with_reducible assumption | with_reducible exact newsTail (by assumption) | with_reducible exact newsTail (newsTail (by assumption)) | exact cb_drop (by with_reducible assumption) (by kcj_all)); (case k5 => k_asm); (case kK => first | exact rfl | assumption); (case kd => (dsimp only [ktrTop, Around.deeper] at *; omega)); (case ku => (dsimp only [ktrTop, Around.deeper] at *; omega))))
theorem tinStart {w : World} {d D1 : Addr} {o : Obj} {t1 t2 t3 : Tok} {ys : List Value} {ns : List Int} (hd : Obj.IsDictOf (PySem.strKind PySem.Challenge.rw_qd0023_05.row.prog w) o (strPairs [(Value.str (Str.ofString "cells") t1, Value.ref D1), (Value.str (Str.ofString "k") t2, Value.int 0 t3)]))
    (hI : IntsAre ys ns) (hn : ns.length < 64) (lo : (d == sysModules) = false) (hne : D1 ≠ d) : TinAt w d D1 o 0 [(D1, LCg.lst ys)] :=
  ⟨⟨ys, ns, ys.length, ⟨t1, t2, t3, hd⟩, .head _, hI, hn⟩, lo, fun p hp => by rw [List.mem_singleton.mp hp]; exact hne, Int.le_refl _⟩
theorem tinOf {w : World} {d D : Addr} {o : Obj} {k : Int} {ys : List Value} {ns : List Int} {own : List (Addr × Obj)} (hT : TinIs w o D k) (k0 : 0 ≤ k) (hI : IntsAre ys ns) (hn : ns.length < 64) (lo : (d == sysModules) = false) (hne : D ≠ d) (ho : ∀ p ∈ own, p.1 ≠ d) : TinAt w d D o k ((D, LCg.lst ys) :: own) :=
  ⟨⟨ys, ns, ys.length, hT, .head _, hI, hn⟩, lo, fun p hp => (List.mem_cons.mp hp).elim (fun e => by rw [e]; exact hne) (ho p), k0⟩
theorem TinAt.is {w : World} {d D : Addr} {o : Obj} {k : Int} {rest : List (Addr × Obj)} (h : TinAt w d D o k rest) : TinIs w o D k := let ⟨_, _, _, h1, _⟩ := h.at_; h1
def Mid (w : World) (h₀ : Heap) (L : Addr) (s : Shared) (f : Flow) (s' : Shared) : Prop :=
  f = .next ∧ ∃ (m' : Str → Option Value) (h' : Heap) (tk : Nat) (d D : Addr) (ys : List Value) (ns : List Int) (o : Obj) (k x y : Int) (tx ty : Tok), s' = { s with heap := h', toks := tk } ∧ Fr h₀ L h' m' ∧ News h₀ L h' [(d, o), (D, LCg.lst ys)] ∧ TinIs w o D k ∧ 0 ≤ k ∧ k ≤ 10 ∧ IntsAre ys ns ∧ ns.length < 64 ∧ (d == sysModules) = false ∧ D ≠ d ∧
    m' (Str.ofString "tin") = some (.ref d) ∧ m' (Str.ofString "a") = some (.int x tx) ∧ m' (Str.ofString "b") = some (.int y ty) ∧ Sz 4000 x ∧ Sz 4000 y ∧ y < big
theorem midEnd {w : World} {h₀ : Heap} {L : Addr} {s : Shared} {m' : Str → Option Value} {h' : Heap} {tk : Nat} {d D : Addr} {ys : List Value} {ns : List Int} {o : Obj} {k x y : Int} {tx ty : Tok} (T : TinAt w d D o k [(D, LCg.lst ys)]) (F : Fr h₀ L h' m') (N : News h₀ L h' [(d, o), (D, LCg.lst ys)]) (hk : k ≤ 10) (hI : IntsAre ys ns) (hn : ns.length < 64)
    (h1 : m' (Str.ofString "tin") = some (.ref d)) (h2 : m' (Str.ofString "a") = some (.int x tx)) (h3 : m' (Str.ofString "b") = some (.int y ty)) (hx : Sz 4000 x) (hy : Sz 4000 y ∧ y < big) : Mid w h₀ L s .next { s with heap := h', toks := tk } :=
  ⟨rfl, m', h', tk, d, D, ys, ns, o, k, x, y, tx, ty, rfl, F, N, T.is, T.k0, hk, hI, hn, T.lo, T.ne _ (.head _), h1, h2, h3, hx, hy.1, hy.2⟩
theorem midIf {M : Model} {A : Around} {E : Value → Shared → Prop} {Q : Flow → Shared → Prop} {s : Shared} {w : World} {h₀ : Heap} {L : Addr} {m : Str → Option Value} {t : Sem Flow} (F : Fr h₀ L s.heap m) (h1 : wpAny M A t (Mid w h₀ L s) E s)
    (h2 : ∀ (d D : Addr) (ys : List Value) (ns : List Int) (o : Obj) (k x y : Int) (tx ty : Tok) (u : Str → Option Value) (h' : Heap) (tk : Nat), Fr h₀ L h' (fun z => if z = Str.ofString "b" then some (.int y ty) else if z = Str.ofString "a" then some (.int x tx) else if z = Str.ofString "tin" then some (.ref d) else u z) → News h₀ L h' [(d, o), (D, LCg.lst ys)] →
      TinIs w o D k → 0 ≤ k → k ≤ 10 → IntsAre ys ns → ns.length < 64 → (d == sysModules) = false → D ≠ d → Sz 4000 x → Sz 4000 y → y < big → Q .next { s with heap := h', toks := tk }) : wpAny M A t Q E s := by
  refine wpAny_mono h1 ?_ fun _ _ h => h
  rintro f s' ⟨rfl, m', h', tk, d, D, ys, ns, o, k, x, y, tx, ty, rfl, F', N', hT, k0, k1, hI, hn, lo, hne, e1, e2, e3, hx, hy, hb⟩
  refine h2 d D ys ns o k x y tx ty m' h' tk ?_ N' hT k0 k1 hI hn lo hne hx hy hb
  have e : (fun z => if z = Str.ofString "b" then some (.int y ty) else if z = Str.ofString "a" then some (.int x tx) else if z = Str.ofString "tin" then some (.ref d) else m' z) = m' := by
    funext z
    by_cases z1 : z = Str.ofString "b"
    · rw [if_pos z1, z1, e3]
    · rw [if_neg z1]
      by_cases z2 : z = Str.ofString "a"
      · rw [if_pos z2, z2, e2]
      · rw [if_neg z2]
        by_cases z3 : z = Str.ofString "tin"
        · rw [if_pos z3, z3, e1]
        · rw [if_neg z3]
  rw [e]; exact F'
theorem lt64 {f : Int → Int} {ns : List Int} : (List.map f (List.take 60 ns)).length < 64 := by rw [List.length_map, List.length_take]; omega
theorem newsSwap {h₀ h : Heap} {L : Addr} {l : List (Addr × Obj)} {p q : Addr × Obj} (N : News h₀ L h (p :: q :: l)) : News h₀ L h (q :: p :: l) := fun r hr => N r ((List.mem_cons.mp hr).elim (fun e => e ▸ .tail _ (.head _)) fun hr => (List.mem_cons.mp hr).elim (fun e => e ▸ .head _) fun hr => .tail _ (.tail _ hr))
theorem newsTail {h₀ h : Heap} {L : Addr} {l : List (Addr × Obj)} {p : Addr × Obj} (N : News h₀ L h (p :: l)) : News h₀ L h l := fun q hq => N q (.tail _ hq)
theorem tinCons {w : World} {d c : Addr} {o : Obj} {k : Int} {rest l : List (Addr × Obj)} {h₀ h : Heap} {L : Addr} {p : Addr × Obj} (_ : News h₀ L h (p :: l)) (h : TinAt w d c o k rest) (hp : p.1 ≠ d) : TinAt w d c o k (p :: rest) := by
  obtain ⟨⟨vs, ns, n, h1, h2, h3, h4⟩, lo, ne, k0⟩ := h
  exact ⟨⟨vs, ns, n, h1, .tail _ h2, h3, h4⟩, lo, fun q hq => (List.mem_cons.mp hq).elim (fun e => e ▸ hp) (ne q), k0⟩
theorem bigE : big = 1298074214633706907132624082305024 := by decide +kernel
theorem p30 : (10 : Int) ^ Int.toNat 30 = 1000000000000000000000000000000 := by decide +kernel
theorem bigV {v d : Int} (h0 : 0 ≤ v) (h1 : v < 2005) (d0 : 0 ≤ d) (d1 : d < 2) : Sz 4000 ((10 ^ Int.toNat 30 + (v - 1002)) * (1 - 2 * d)) ∧ (10 ^ Int.toNat 30 + (v - 1002)) * (1 - 2 * d) < big := by
  have hd : d = 0 ∨ d = 1 := by omega
  have hz : ((10 : Int) ^ Int.toNat 30 + (v - 1002)) * (1 - 2 * d) = 10 ^ Int.toNat 30 + (v - 1002) ∨ ((10 : Int) ^ Int.toNat 30 + (v - 1002)) * (1 - 2 * d) = -(10 ^ Int.toNat 30 + (v - 1002)) := by
    rcases hd with rfl | rfl
    · left; show _ * (1 : Int) = _; rw [Int.mul_one]
    · right; show _ * (-1 : Int) = _; rw [Int.mul_neg, Int.mul_one]
  generalize ((10 : Int) ^ Int.toNat 30 + (v - 1002)) * (1 - 2 * d) = z at hz
  rw [p30] at hz
  have hs : (2 : Nat) ^ 110 = 1298074214633706907132624082305024 := by decide +kernel
  refine ⟨(szOf (k := 110) ?_).mono (by decide), ?_⟩
  · rw [hs]; omega
  · rw [bigE]; omega
theorem bigOf {v : Int} (h : v < 3000) : v < big := by rw [bigE]; omega
local macro_rules | `(tactic| k_call_by "appT" $t) => `(tactic| (k_dflt (refine' $t _ _ _ _ _ _ _ _ _ _ _ _ _ _ _ _ _ _ ?k1 ?k2 ?k3 ?k4 ?k5 ?k6 ?k7 ?kK ?kd ?ku ?kR); (case k1 => k_asm); (case k2 => k_asm); (case k3 => k_asm); (case k4 => first | with_reducible assumption | with_reducible exact newsTail (by assumption) | with_reducible exact newsTail (newsTail (by assumption)) | exact cb_drop (by with_reducible assumption) (by kcj_all)); (case k5 => k_asm); (case k6 => k_asm); (case k7 => k_asm); (case kK => first | exact rfl | assumption); (case kd => first | k_dflt (exact Nat.le_of_ble_eq_true rfl) | (dsimp only [ktrTop, Around.deeper] at *; omega)); (case ku => first | k_dflt (exact Nat.le_of_ble_eq_true rfl) | (dsimp only [ktrTop, Around.deeper] at *; omega))))
local macro_rules | `(tactic| walk_at "signis") => `(tactic| first | assumption | exact Or.inl rfl | exact Or.inr (Or.inl rfl) | exact Or.inr (Or.inr (Or.inl rfl)) | exact Or.inr (Or.inr (Or.inr (Or.inl rfl))) | exact Or.inr (Or.inr (Or.inr (Or.inr (Or.inl rfl)))) | exact Or.inr (Or.inr (Or.inr (Or.inr (Or.inr rfl)))))
local macro_rules | `(tactic| walk_at "sz") => `(tactic| first | (refine Sz.mono (sm (by omega) (by omega)) ?_; decide) | (refine Sz.mono (szPow (by decide)) ?_; decide) | assumption)
local macro_rules | `(tactic| walk_at "call ref") => `(tactic| ((with_reducible show wpAny _ _ (call (Value.ref 436) _) _ _ _); (k_call_by "appAt" (base_at _ _ _ _ _ (by assumption) (by omega))); intro vb tb ob hb tkb szb Tb Fb Nb; (try dsimp only); (try k_fold)))
local macro_rules | `(tactic| walk_at "call ref") => `(tactic| ((with_reducible show wpAny _ _ (call (Value.ref 429) _) _ _ _); (k_call_by "appAt" (number_at _ _ _ _ _ (by assumption) (by omega))); intro vb tb ob hb tkb szb Tb Fb Nb; (try dsimp only); (try k_fold)))
local macro_rules | `(tactic| walk_at "call ref") => `(tactic| ((with_reducible show wpAny _ _ (call (Value.ref 443) _) _ _ _); (k_call_by "appT" (told_is _ _ _ _ _ _ _ _ (by walk_at "sz") (by walk_at "sz"))); intro Tt ot ht tkt hrt Ft Nt; (try dsimp only); (try k_fold)))
local macro_rules | `(tactic| walk_at "call ref") => `(tactic| ((with_reducible show wpAny _ _ (call (Value.ref 450) _) _ _ _); (k_call_by "appT" (node_is _ _ (by walk_at "signis") _ _ _ _ _ _ (by walk_at "sz") (by walk_at "sz"))); intro Tt ot ht tkt hrt Ft Nt; (try dsimp only); (try k_fold)))
local macro_rules | `(tactic| walk_at "call ref") => `(tactic| ((with_reducible show wpAny _ _ (call (Value.ref 464) _) _ _ _); (k_call_by "appAt" (lawpow_is _ _ _ _ _ _ (by walk_at "sz") (by walk_at "big"))); intro Tt ot ht tkt hrt Ft Nt; (try dsimp only); (try k_fold)))
local macro_rules | `(tactic| walk_at "call ref") => `(tactic| ((with_reducible show wpAny _ _ (call (Value.ref 457) _) _ _ _); (k_call_by "appAt" (capped_is _ _ _ _)); intro Tt ot ht tkt hrt Ft Nt; (try dsimp only); (try k_fold)))
local macro_rules | `(tactic| walk_at "call ref") => `(tactic| ((with_reducible show wpAny _ _ (call (Value.ref 471) _) _ _ _); (k_call_by "appAt" (shared_is _ _ (by first | exact Or.inl rfl | exact Or.inr rfl) _ _ _ _ _ _ _ _ (by walk_at "sz") (by walk_at "sz") ?hD ?hr)); (case hr => with_reducible assumption); (case hD => k_dflt k_mem); intro ht tkt Ft Nt; (try dsimp only); (try k_fold)))
local macro_rules | `(tactic| walk_at "compareOp NotEq ref ref") => `(tactic| ((with_reducible show wpAny _ _ (compareOp CmpOp.NotEq (Value.ref _) (Value.ref _)) _ _ _); k_dflt (refine' neTup ?kN ?k1 ?k2 ?r1 ?r2 ?kr ?ku ?_; (case kN => k_asm); (case k1 => k_mem); (case k2 => k_mem); (case r1 => assumption); (case r2 => assumption); (case kr => first | rfl | exact tolds _ (by walk_at "signis") _ _); (case ku => exact Nat.le_of_ble_eq_true rfl))))
local macro_rules | `(tactic| walk_at "big") => `(tactic| first | assumption | exact bigOf (by omega))
def Stopped (P : Prop) : Prop := P
theorem stopHere {P : Prop} (h : Stopped P) : P := h
local macro_rules | `(tactic| walk_at "call ref") => `(tactic| ((with_reducible show wpAny _ _ (call (Value.ref 436) _) _ _ _); refine Mine.stopHere ?_))
local macro_rules | `(tactic| walk_at "call ref") => `(tactic| ((with_reducible show wpAny _ _ (call (Value.ref 422) [Value.ref _, Value.int 6 _]) _ _ _); refine Mine.stopHere ?_))
local macro_rules | `(tactic| walk_at "exec If") => `(tactic| ((with_reducible show wpAny _ _ (exec (Stmt.If (Expr.BoolOp _ _ _) _ _ _) _) _ _ _); refine Mine.stopHere ?_))
local macro_rules | `(tactic| walk_at "exec For") => `(tactic| ((with_reducible show wpAny _ _ (exec (Stmt.For (Expr.Name (Str.ofString "lap") _) _ _ _ _) _) _ _ _); refine Mine.stopHere ?_))
local macro_rules | `(tactic| walk_at "InvEndN") => `(tactic| refine Mine.stopHere ?_)
local macro_rules | `(tactic| walk_at "pyIter ref") => `(tactic| ((with_reducible show wpAny _ _ (pyIter _) (fun it s2 => LoopAtV _ _ _ _ _ (Str.ofString "lap") _ _ _ it s2) _ _); refine Mine.stopHere ?_))
local macro_rules | `(tactic| k_call_by "app" $t) => `(tactic| (k_dflt (refine' $t _ _ _ _ _ _ _ _ _ _ _ _ _ _ _ _ _ _ _ _ ?k1 ?k2 ?k3 ?k4 ?k5 ?kK ?kd ?ku ?kR); (case k1 => k_asm); (case k2 => k_asm); (case k3 => k_asm); (case k4 => first | with_reducible assumption | with_reducible exact newsTail (by assumption) | with_reducible exact newsTail (newsTail (by assumption)) | exact cb_drop (by with_reducible assumption) (by kcj_all)); (case k5 => k_asm); (case kK => first | exact rfl | assumption); (case kd => first | k_dflt (exact Nat.le_of_ble_eq_true rfl) | (dsimp only [ktrTop] at *; omega)); (case ku => first | k_dflt (exact Nat.le_of_ble_eq_true rfl) | (dsimp only [ktrTop] at *; omega))))
local macro_rules | `(tactic| k_call_by "appAt" $t) => `(tactic| (k_dflt (refine' $t _ _ _ _ _ _ _ _ _ _ _ _ _ _ _ _ _ _ _ _ ?k1 ?k2 ?k3 ?k4 ?k5 ?kK ?kd ?ku ?kR); (case k1 => k_asm); (case k2 => k_asm); (case k3 => k_asm); (case k4 => first | with_reducible assumption | with_reducible exact newsTail (by assumption) | with_reducible exact newsTail (newsTail (by assumption)) | exact cb_drop (by with_reducible assumption) (by kcj_all)); (case k5 => k_asm); (case kK => first | exact rfl | assumption); (case kd => first | k_dflt (exact Nat.le_of_ble_eq_true rfl) | (dsimp only [ktrTop, Around.deeper] at *; omega)); (case ku => first | k_dflt (exact Nat.le_of_ble_eq_true rfl) | (dsimp only [ktrTop, Around.deeper] at *; omega))))
theorem offNames {z : Str} (h : [Str.ofString "sign", Str.ofString "a", Str.ofString "b", Str.ofString "told", Str.ofString "due"].contains z = false) : z ≠ Str.ofString "sign" ∧ z ≠ Str.ofString "a" ∧ z ≠ Str.ofString "b" ∧ z ≠ Str.ofString "told" ∧ z ≠ Str.ofString "due" := by
  simp only [List.contains_cons, List.contains_nil, Bool.or_false, Bool.or_eq_false_iff, beq_eq_false_iff_ne, ne_eq] at h
  exact h
theorem newsSame {h₀ h h' : Heap} {L : Addr} {l l' : List (Addr × Obj)} (_ : News h₀ L h' l') (N : News h₀ L h l) : News h₀ L h l := N
theorem frSame {h₀ h h' : Heap} {L : Addr} {m m' : Str → Option Value} (_ : Fr h₀ L h' m') (F : Fr h₀ L h m) : Fr h₀ L h m := F
local macro_rules | `(tactic| k_qdec) => `(tactic| decide +kernel)
def lawWalk := onlyWalk hdw (by
  k_go0
  all_goals (try k_fold)
  k_steps
  (with_reducible rename IntsAre _ (List.map _ (List.take 60 _)) => hiC)
  (with_reducible rename Obj.IsDictOf _ _ (strPairs _) => hdT)
  (with_reducible rename _ ≠ _ ∧ _ ≠ _ => hneT)
  have TT := tinStart hdT hiC lt64 (by assumption) (Ne.symm hneT.2)
  clear hdT
  unfold Stopped
  k_call_by "appAt" (base_at _ _ _ _ _ TT (by decide))
  intro va ta oa ha tka sza Ta Fa Na
  (try dsimp only)
  (try k_fold)
  k_steps
  unfold Stopped
  (with_reducible rename World => wW)
  k_dflt (refine midIf (w := wW) (by assumption) ?_ ?_)
  · refine wpAny_If ?_
    k_steps
    all_goals (try dsimp only)
    all_goals first
      | exact midEnd (by assumption) (by assumption) (cb_drop (by assumption) (by kcj_all)) (by omega) hiC lt64 rfl rfl rfl sza (bigV (by assumption) (by assumption) (by assumption) (by assumption))
      | exact midEnd (by assumption) (by assumption) (cb_drop (by assumption) (by kcj_all)) (by omega) hiC lt64 rfl rfl rfl sza ⟨(sm (by omega) (by omega)).mono (by decide), bigOf (by omega)⟩
  intro d D ys ns o k x y tx ty u h' tk F' N' hT k0 k1 hI hn lo hne hx hy hbig
  (try dsimp only)
  (try k_fold)
  k_steps
  unfold Stopped
  (with_reducible rename IsRange _ _ _ _ _ _ _ _ => rgX)
  (with_reducible rename Fr _ _ _ _ => Fx)
  (with_reducible rename News _ _ _ _ => Nx)
  (with_unfolding_all refine' kst_range (n := 5) (fun c : Obj × Int => [(d, c.1), (D, LCg.lst ys)]) (fun _ => []) (fun c => TinIs wW c.1 D c.2 ∧ 0 ≤ c.2) [Str.ofString "sign", Str.ofString "a", Str.ofString "b", Str.ofString "told", Str.ofString "due"] (fun pre c => c.2 ≤ 10 + 12 * (pre.length : Int)) (o, k) (by rfl) rgX (by decide) (by rfl) Fx ?kn ?kf ?kk ?kp ?turn ?done)
  case kn => exact cb_drop Nx (by kcj_all)
  case kf => exact ⟨hT, k0⟩
  case kk => intro p hp; cases hp
  case kp => (show k ≤ 10 + 12 * ((0 : Nat) : Int)); omega
  case turn =>
    intro c pre kk tt uu hh tkk own hk hlt hoff hf hp F9 N9
    obtain ⟨o9, k9⟩ := c
    dsimp only at hf hp
    replace N9 : News _ _ _ ((d, o9) :: (D, LCg.lst ys) :: own) := newsSame Nx N9
    replace F9 := frSame Fx F9
    clear Fx Nx
    have TT9 := tinOf hf.1 hf.2 hI hn lo hne (hoff.ne (.head _))
    have hp9 : k9 ≤ 10 + 12 * (pre.length : Int) := hp
    clear hf hp
    (try dsimp only)
    (try k_fold)
    k_steps
    unfold Stopped
    (with_reducible rename News _ _ _ _ => Nt)
    (with_reducible rename (d < _) ∧ _ => hl2)
    have TTt := tinCons Nt TT9 (Nat.ne_of_gt hl2.1)
    have hk9 : k9 ≤ 1000 := by omega
    (k_dflt (refine' draw_at _ _ _ _ _ _ _ TTt hk9 (by decide) _ _ _ _ _ _ _ _ _ _ _ _ _ _ _ _ _ _ _ _ ?k1 ?k2 ?k3 ?k4 ?k5 ?kK ?kd ?ku ?kR)); 
    (case k1 => k_asm); 
    (case k2 => k_asm); 
    (case k3 => k_asm); 
    (case k4 => exact newsSwap Nt); 
    (case k5 => k_asm); 
    (case kK => first | exact rfl | assumption); 
    (case kd => first | k_dflt (exact Nat.le_of_ble_eq_true rfl) | (dsimp only [ktrTop, Around.deeper] at *; omega)); (case ku => first | k_dflt (exact Nat.le_of_ble_eq_true rfl) | (dsimp only [ktrTop, Around.deeper] at *; omega))
    intro vd td od hd tkd dr0 dr1 Td Fd Nd
    rcases (by omega : vd = 0 ∨ vd = 1 ∨ vd = 2 ∨ vd = 3 ∨ vd = 4 ∨ vd = 5) with rfl | rfl | rfl | rfl | rfl | rfl
    all_goals (try dsimp only)
    all_goals (try k_fold)
    clear TTt TT9 Nt
    k_steps
    all_goals (
      unfold Stopped
      (with_reducible rename TinAt _ _ _ _ _ _ => Te)
      (with_reducible rename Fr _ _ _ _ => Fe)
      (with_reducible rename News _ _ _ _ => Ne)
      refine kst_end (_, _) Fe Ne ?hn ?ho ?ha ⟨Te.is, Te.k0⟩ ?hk ?hr ?hp
      case ha => rfl
      case hn => exact fun p hp => (List.mem_cons.mp hp).elim (fun e => e ▸ (by k_mem)) fun hp => (List.mem_cons.mp hp).elim (fun e => e ▸ (by k_mem)) (fun hp => nomatch hp)
      case ho => (intro p hp; repeat first | exact hp | refine List.mem_cons_of_mem _ ?_)
      case hk => (intro p hp; cases hp)
      case hr => (intro z z1 _ z3; obtain ⟨q1, q2, q3, q4, q5⟩ := offNames z3; simp only [if_neg z1, if_neg q1, if_neg q2, if_neg q3, if_neg q4, if_neg q5, kstB, z3, Bool.false_eq_true, if_false])
      case hp => (show _ ≤ 10 + 12 * (((pre ++ [kk]).length : Nat) : Int); rw [List.length_append]; show _ ≤ 10 + 12 * (((pre.length + 1 : Nat)) : Int); omega))
  case done =>
    intro c uu hh tkk hf hp F9 N9
    (try dsimp only)
    (try k_fold)
    k_steps)
end -- Gf
end Mine
end
section -- Ht05b
open PySem PySem.W PyProof.Rows
namespace Mine
theorem top05.tw10034381529555208778 : True := trivial
theorem top05.tw10034413380553363791 : True := trivial
theorem top05.tw10039484259156523182 : True := trivial
theorem top05.tw10095272653693242851 : True := trivial
theorem top05.tw10207975287107201832 : True := trivial
theorem top05.tw10234359005594972056 : True := trivial
theorem top05.tw10319956911159556359 : True := trivial
theorem top05.tw10334780018562205790 : True := trivial
theorem top05.tw10335754107716176012 : True := trivial
theorem top05.tw10388269574603322160 : True := trivial
theorem top05.tw10393321484779314541 : True := trivial
theorem top05.tw10411803001332425639 : True := trivial
theorem top05.tw10415489899214141694 : True := trivial
theorem top05.tw1042941385694757260 : True := trivial
theorem top05.tw10469454252441452365 : True := trivial
theorem top05.tw10495193781264170850 : True := trivial
theorem top05.tw10524038737561852205 : True := trivial
theorem top05.tw10613151583413664251 : True := trivial
theorem top05.tw10627742565863231903 : True := trivial
theorem top05.tw10648477740647607570 : True := trivial
theorem top05.tw10713483767880401096 : True := trivial
theorem top05.tw10750844253584366753 : True := trivial
theorem top05.tw1076369154948648381 : True := trivial
theorem top05.tw10772791416889063783 : True := trivial
theorem top05.tw10871458399487353281 : True := trivial
theorem top05.tw1092651825291535463 : True := trivial
theorem top05.tw10940145096950617591 : True := trivial
theorem top05.tw10940505110173451918 : True := trivial
theorem top05.tw10975182486461823734 : True := trivial
theorem top05.tw11022308817351892667 : True := trivial
theorem top05.tw11033520820583679070 : True := trivial
theorem top05.tw11035870176193092629 : True := trivial
theorem top05.tw1103900376567458229 : True := trivial
theorem top05.tw11045295363362863175 : True := trivial
theorem top05.tw11074931024814511382 : True := trivial
theorem top05.tw11105817257719598879 : True := trivial
theorem top05.tw11122352019972482563 : True := trivial
theorem top05.tw11122917703265878897 : True := trivial
theorem top05.tw11128076642831414866 : True := trivial
theorem top05.tw11138442887926656075 : True := trivial
theorem top05.tw11144472505814394417 : True := trivial
theorem top05.tw11180122645764618616 : True := trivial
theorem top05.tw11275760050255847630 : True := trivial
theorem top05.tw11294576962197433146 : True := trivial
theorem top05.tw11335921158407387816 : True := trivial
theorem top05.tw11355111142148119396 : True := trivial
theorem top05.tw11403674552677060440 : True := trivial
theorem top05.tw11428679326206881036 : True := trivial
theorem top05.tw11449707979097000442 : True := trivial
theorem top05.tw11461376202913893150 : True := trivial
theorem top05.tw11537951117298780669 : True := trivial
theorem top05.tw11545822162656271989 : True := trivial
theorem top05.tw1166533170675223585 : True := trivial
theorem top05.tw11680807733316399395 : True := trivial
theorem top05.tw11689024133252637060 : True := trivial
theorem top05.tw11721519243402410631 : True := trivial
theorem top05.tw11741132587317309391 : True := trivial
theorem top05.tw11801839122057677562 : True := trivial
theorem top05.tw11809140736796934609 : True := trivial
theorem top05.tw11812038361024270137 : True := trivial
theorem top05.tw11812274222444699138 : True := trivial
theorem top05.tw11846952336597012298 : True := trivial
theorem top05.tw11879155604242694152 : True := trivial
theorem top05.tw11883444905896606978 : True := trivial
theorem top05.tw11893683697313772747 : True := trivial
theorem top05.tw11938260432304414856 : True := trivial
theorem top05.tw11946212525763911636 : True := trivial
theorem top05.tw12043258842892993273 : True := trivial
theorem top05.tw12060604097271076994 : True := trivial
theorem top05.tw12092769586883933008 : True := trivial
theorem top05.tw1209392931970879090 : True := trivial
theorem top05.tw12121905882863704195 : True := trivial
theorem top05.tw12122701158341317790 : True := trivial
theorem top05.tw121300893817130920 : True := trivial
theorem top05.tw12137729457024503322 : True := trivial
theorem top05.tw12157342581033374485 : True := trivial
theorem top05.tw12169128122721779403 : True := trivial
theorem top05.tw12173721504960098420 : True := trivial
theorem top05.tw12240378330907822888 : True := trivial
theorem top05.tw12249308075108257708 : True := trivial
theorem top05.tw1226615209250309588 : True := trivial
theorem top05.tw12304115627709554287 : True := trivial
theorem top05.tw12337412553115709879 : True := trivial
theorem top05.tw12345816950744880994 : True := trivial
theorem top05.tw12430231275236586096 : True := trivial
theorem top05.tw12439632052429610110 : True := trivial
theorem top05.tw12472763025505798357 : True := trivial
theorem top05.tw12476993285030687966 : True := trivial
theorem top05.tw1250067991023167390 : True := trivial
theorem top05.tw12509212027808113186 : True := trivial
theorem top05.tw12558621707720204131 : True := trivial
theorem top05.tw12649151196724912407 : True := trivial
theorem top05.tw12704347356681808026 : True := trivial
theorem top05.tw12745274041236145546 : True := trivial
theorem top05.tw1274764865410753199 : True := trivial
theorem top05.tw12751649297482248140 : True := trivial
theorem top05.tw12780715462828551946 : True := trivial
theorem top05.tw12793689140398391184 : True := trivial
theorem top05.tw12816647602402954168 : True := trivial
theorem top05.tw12840154816932419233 : True := trivial
theorem top05.tw12875834440996461022 : True := trivial
theorem top05.tw12898734350009041402 : True := trivial
theorem top05.tw13003240012914470397 : True := trivial
theorem top05.tw13107898512654588630 : True := trivial
theorem top05.tw13108255059730754271 : True := trivial
theorem top05.tw13113247919891572557 : True := trivial
theorem top05.tw1319176489166501557 : True := trivial
theorem top05.tw13206539279491326726 : True := trivial
theorem top05.tw13235082611059852080 : True := trivial
theorem top05.tw13241821438440736743 : True := trivial
theorem top05.tw13255745397384589250 : True := trivial
theorem top05.tw13256589869394285246 : True := trivial
theorem top05.tw13277287667947820045 : True := trivial
theorem top05.tw13293353311981468108 : True := trivial
theorem top05.tw13316711949940990000 : True := trivial
theorem top05.tw13348859136271204964 : True := trivial
theorem top05.tw13362650278208462065 : True := trivial
theorem top05.tw13362779489379282971 : True := trivial
theorem top05.tw13409478408795443585 : True := trivial
theorem top05.tw13442747511777068324 : True := trivial
theorem top05.tw13478210002706127309 : True := trivial
theorem top05.tw13510040727718954315 : True := trivial
theorem top05.tw13556827011104562718 : True := trivial
theorem top05.tw13563349483995974202 : True := trivial
theorem top05.tw13622811796181512051 : True := trivial
theorem top05.tw13691840473583695912 : True := trivial
theorem top05.tw13705291355829933399 : True := trivial
theorem top05.tw13716570028912122965 : True := trivial
theorem top05.tw13747389821914160577 : True := trivial
theorem top05.tw13756255357212075904 : True := trivial
theorem top05.tw13766082019035260861 : True := trivial
theorem top05.tw13766694783511538502 : True := trivial
theorem top05.tw13768584549119321381 : True := trivial
theorem top05.tw13783777516440790201 : True := trivial
theorem top05.tw13811153244763188558 : True := trivial
theorem top05.tw13859885164404995308 : True := trivial
theorem top05.tw13894688224613333054 : True := trivial
theorem top05.tw13903030549396689708 : True := trivial
theorem top05.tw13988381368490431362 : True := trivial
theorem top05.tw14000760551840942049 : True := trivial
theorem top05.tw14013578370958796695 : True := trivial
theorem top05.tw14046830335936389035 : True := trivial
theorem top05.tw14084485621872399168 : True := trivial
theorem top05.tw14127903815772906103 : True := trivial
theorem top05.tw1417445846508486157 : True := trivial
theorem top05.tw14204837880845140618 : True := trivial
theorem top05.tw14266800356903388834 : True := trivial
theorem top05.tw14279288840647066481 : True := trivial
theorem top05.tw14325061369874879014 : True := trivial
theorem top05.tw14347549902620105962 : True := trivial
theorem top05.tw14387936144946052007 : True := trivial
theorem top05.tw1441530307277840997 : True := trivial
theorem top05.tw1444221804442094929 : True := trivial
theorem top05.tw14454997837156698873 : True := trivial
theorem top05.tw14475560943236056147 : True := trivial
theorem top05.tw14500311463638029703 : True := trivial
theorem top05.tw14507471818807477072 : True := trivial
theorem top05.tw14523361616281250261 : True := trivial
theorem top05.tw1453159165186971752 : True := trivial
theorem top05.tw1458208739756753380 : True := trivial
theorem top05.tw14585572879469184323 : True := trivial
theorem top05.tw14594216918762706611 : True := trivial
theorem top05.tw14643937495391354714 : True := trivial
theorem top05.tw14646603778079456288 : True := trivial
theorem top05.tw14659227728279701963 : True := trivial
theorem top05.tw14762353834000328799 : True := trivial
theorem top05.tw14771715907648443221 : True := trivial
theorem top05.tw14791987042298101583 : True := trivial
theorem top05.tw14835180741999375930 : True := trivial
theorem top05.tw14854063577035227903 : True := trivial
theorem top05.tw14895161581458625363 : True := trivial
theorem top05.tw14933379500881874008 : True := trivial
theorem top05.tw1493428840430878592 : True := trivial
theorem top05.tw15080742274633353159 : True := trivial
theorem top05.tw1508781761374398316 : True := trivial
theorem top05.tw15127718870655510016 : True := trivial
theorem top05.tw15135701631893991721 : True := trivial
theorem top05.tw15196135507728599592 : True := trivial
theorem top05.tw15218205633458317312 : True := trivial
theorem top05.tw15235250697439335201 : True := trivial
theorem top05.tw15328304919290124831 : True := trivial
theorem top05.tw15336851395913379456 : True := trivial
theorem top05.tw15338815908590671955 : True := trivial
theorem top05.tw15351878960963066460 : True := trivial
theorem top05.tw15379121409496068149 : True := trivial
theorem top05.tw15437303226914535442 : True := trivial
theorem top05.tw15447779248450622437 : True := trivial
theorem top05.tw15464908990529991275 : True := trivial
theorem top05.tw15470796107538917187 : True := trivial
theorem top05.tw15502959904942207232 : True := trivial
theorem top05.tw15530971752096554634 : True := trivial
theorem top05.tw15536192513408048086 : True := trivial
theorem top05.tw15580123651178619488 : True := trivial
theorem top05.tw15604813740459237843 : True := trivial
theorem top05.tw15617710611940727300 : True := trivial
theorem top05.tw15619899045808188894 : True := trivial
theorem top05.tw1564848612967060053 : True := trivial
theorem top05.tw15662087113755535893 : True := trivial
theorem top05.tw15680233318221735737 : True := trivial
theorem top05.tw15694493572696984780 : True := trivial
theorem top05.tw15764229976378152793 : True := trivial
theorem top05.tw15815333365247216957 : True := trivial
theorem top05.tw15816375941916956865 : True := trivial
theorem top05.tw15824171831665525382 : True := trivial
theorem top05.tw15832365332670083960 : True := trivial
theorem top05.tw15856382838862866999 : True := trivial
theorem top05.tw15867956475170316245 : True := trivial
theorem top05.tw15874942932104431642 : True := trivial
theorem top05.tw1590702415190898509 : True := trivial
theorem top05.tw15961795557662707119 : True := trivial
theorem top05.tw15992541084766967445 : True := trivial
theorem top05.tw16006420949116115719 : True := trivial
theorem top05.tw16012385550683110367 : True := trivial
theorem top05.tw16015020076281135207 : True := trivial
theorem top05.tw16021463139782788905 : True := trivial
theorem top05.tw16026656025832471766 : True := trivial
theorem top05.tw16038451254280842303 : True := trivial
theorem top05.tw16079442823641389570 : True := trivial
theorem top05.tw16079860571541346134 : True := trivial
theorem top05.tw16084398577740599926 : True := trivial
theorem top05.tw16124886725476061348 : True := trivial
theorem top05.tw1613011008401030955 : True := trivial
theorem top05.tw16137064665242954681 : True := trivial
theorem top05.tw16143015178019909544 : True := trivial
theorem top05.tw16238628189661014641 : True := trivial
theorem top05.tw16319746322634364768 : True := trivial
theorem top05.tw16392170350466852992 : True := trivial
theorem top05.tw16395026498761691370 : True := trivial
theorem top05.tw16438174329652154597 : True := trivial
theorem top05.tw16450571433101659412 : True := trivial
theorem top05.tw16462680947033999878 : True := trivial
theorem top05.tw16465632656562415303 : True := trivial
theorem top05.tw16495310934210440055 : True := trivial
theorem top05.tw16496740278467304627 : True := trivial
theorem top05.tw16506352635164493655 : True := trivial
theorem top05.tw16522480182122191870 : True := trivial
theorem top05.tw16526925237468714439 : True := trivial
theorem top05.tw16574479934981573085 : True := trivial
theorem top05.tw16582913216305964297 : True := trivial
theorem top05.tw16618299655016943185 : True := trivial
theorem top05.tw16661431665309302408 : True := trivial
theorem top05.tw1670953860096753153 : True := trivial
theorem top05.tw16756062510685211005 : True := trivial
theorem top05.tw16765885921781716054 : True := trivial
theorem top05.tw16768286044120084659 : True := trivial
theorem top05.tw1684210859931822778 : True := trivial
theorem top05.tw16880548035072532372 : True := trivial
theorem top05.tw16883498361484075230 : True := trivial
theorem top05.tw16921835226245167156 : True := trivial
theorem top05.tw16936753147383189757 : True := trivial
theorem top05.tw16939239437417948225 : True := trivial
theorem top05.tw16970030225430983896 : True := trivial
theorem top05.tw17014350427041947324 : True := trivial
theorem top05.tw17075911075327322034 : True := trivial
theorem top05.tw17081496792560037809 : True := trivial
theorem top05.tw17081581380304128134 : True := trivial
theorem top05.tw17140433098474086107 : True := trivial
theorem top05.tw17170818270308841263 : True := trivial
theorem top05.tw17175657055685046959 : True := trivial
theorem top05.tw17197799286758283033 : True := trivial
theorem top05.tw17202093344610299048 : True := trivial
theorem top05.tw17206053495619634097 : True := trivial
theorem top05.tw17217349665800339382 : True := trivial
theorem top05.tw17224672272601440044 : True := trivial
theorem top05.tw17245009929014977829 : True := trivial
theorem top05.tw17259716647304076334 : True := trivial
theorem top05.tw17294987893736990334 : True := trivial
theorem top05.tw17298251926411013780 : True := trivial
theorem top05.tw17304417109372478620 : True := trivial
theorem top05.tw17316724865890576412 : True := trivial
theorem top05.tw17317147400986730576 : True := trivial
theorem top05.tw17322031207846292146 : True := trivial
theorem top05.tw17325565821718504348 : True := trivial
theorem top05.tw17359448527678710046 : True := trivial
theorem top05.tw1736025222944171527 : True := trivial
theorem top05.tw17363603726049264592 : True := trivial
theorem top05.tw17370307009991625885 : True := trivial
theorem top05.tw17379837078972043920 : True := trivial
theorem top05.tw17400723692069655122 : True := trivial
theorem top05.tw17482063097023252556 : True := trivial
theorem top05.tw17509677640214362333 : True := trivial
theorem top05.tw17541436702349708739 : True := trivial
theorem top05.tw1756933643372541235 : True := trivial
theorem top05.tw17574572149401038772 : True := trivial
theorem top05.tw17589015257163472908 : True := trivial
theorem top05.tw17589889833400906485 : True := trivial
theorem top05.tw17599271516274867671 : True := trivial
theorem top05.tw17609157722490546032 : True := trivial
theorem top05.tw17656500496335921207 : True := trivial
theorem top05.tw17674454316517848006 : True := trivial
theorem top05.tw17675846715346223676 : True := trivial
theorem top05.tw17718117956091722717 : True := trivial
theorem top05.tw17720792448360614509 : True := trivial
theorem top05.tw17754887450480975836 : True := trivial
theorem top05.tw17830110436330354714 : True := trivial
theorem top05.tw17837370034279460604 : True := trivial
theorem top05.tw17844303958442457529 : True := trivial
theorem top05.tw17860914153269868682 : True := trivial
theorem top05.tw17873037698110161272 : True := trivial
theorem top05.tw17882543546202285598 : True := trivial
theorem top05.tw17902117412700092878 : True := trivial
theorem top05.tw17905150272144506277 : True := trivial
theorem top05.tw17927581905237132142 : True := trivial
theorem top05.tw17934753645892260712 : True := trivial
theorem top05.tw1793990451063012465 : True := trivial
theorem top05.tw1799577295208563684 : True := trivial
theorem top05.tw18020874705417297271 : True := trivial
theorem top05.tw18023453336772230547 : True := trivial
theorem top05.tw18060132167953826108 : True := trivial
theorem top05.tw18064440024572081507 : True := trivial
theorem top05.tw18080088230044630163 : True := trivial
theorem top05.tw18143354421357254538 : True := trivial
theorem top05.tw18208729286303918626 : True := trivial
theorem top05.tw18213252179120063811 : True := trivial
theorem top05.tw18232017429465901229 : True := trivial
theorem top05.tw18266759180186034863 : True := trivial
theorem top05.tw18277292861429138377 : True := trivial
theorem top05.tw1828238816225049244 : True := trivial
theorem top05.tw1828608588683867832 : True := trivial
theorem top05.tw18304415557522489705 : True := trivial
theorem top05.tw18354089438165986460 : True := trivial
theorem top05.tw1837626672293388487 : True := trivial
theorem top05.tw18379086428372192474 : True := trivial
theorem top05.tw18388530702801855102 : True := trivial
theorem top05.tw18402120774152313394 : True := trivial
theorem top05.tw18406119710672610387 : True := trivial
theorem top05.tw18418652090388887117 : True := trivial
theorem top05.tw18424072805495767976 : True := trivial
theorem top05.tw18438903092956914799 : True := trivial
theorem top05.tw1858182209705430955 : True := trivial
theorem top05.tw1913169584175233685 : True := trivial
theorem top05.tw1927723898847037905 : True := trivial
theorem top05.tw1984283568617409403 : True := trivial
theorem top05.tw2057494664132919188 : True := trivial
theorem top05.tw2091299141688835812 : True := trivial
theorem top05.tw2097569758469744380 : True := trivial
theorem top05.tw2197633603498570846 : True := trivial
theorem top05.tw2219234519637640496 : True := trivial
theorem top05.tw2239977986876988803 : True := trivial
theorem top05.tw2241324035146205843 : True := trivial
theorem top05.tw2247442757195919778 : True := trivial
theorem top05.tw2257025539747225741 : True := trivial
theorem top05.tw2266868167143374008 : True := trivial
theorem top05.tw2272861588531787626 : True := trivial
theorem top05.tw2307851486877970885 : True := trivial
theorem top05.tw2391808733766117058 : True := trivial
theorem top05.tw2421068547006632993 : True := trivial
theorem top05.tw2461418796778964882 : True := trivial
theorem top05.tw2489936357043913748 : True := trivial
theorem top05.tw258251959740341271 : True := trivial
theorem top05.tw2583390117869546168 : True := trivial
theorem top05.tw2585440963598113497 : True := trivial
theorem top05.tw2621881352372140192 : True := trivial
theorem top05.tw2696861583992468382 : True := trivial
theorem top05.tw2716395557759517128 : True := trivial
theorem top05.tw2751318687136360930 : True := trivial
theorem top05.tw2759836446807645794 : True := trivial
theorem top05.tw294719294730384591 : True := trivial
theorem top05.tw2955621398494015077 : True := trivial
theorem top05.tw3006920222789806236 : True := trivial
theorem top05.tw3009246715067654278 : True := trivial
theorem top05.tw3015693587220750190 : True := trivial
theorem top05.tw3114581279215047643 : True := trivial
theorem top05.tw3116475568238001112 : True := trivial
theorem top05.tw3206414785580618700 : True := trivial
theorem top05.tw3231569937633617604 : True := trivial
theorem top05.tw3236690861385802501 : True := trivial
theorem top05.tw3279483784629050806 : True := trivial
theorem top05.tw3294359899846118996 : True := trivial
theorem top05.tw3328526898033303712 : True := trivial
theorem top05.tw3348300102213902313 : True := trivial
theorem top05.tw3355119952131108270 : True := trivial
theorem top05.tw3379431023511136046 : True := trivial
theorem top05.tw3432583679648318338 : True := trivial
theorem top05.tw346258027437984957 : True := trivial
theorem top05.tw3514607231490202308 : True := trivial
theorem top05.tw3537814858379734282 : True := trivial
theorem top05.tw3538348718084600634 : True := trivial
theorem top05.tw3543635473015601943 : True := trivial
theorem top05.tw3663403163820171476 : True := trivial
theorem top05.tw3673369453724687675 : True := trivial
theorem top05.tw3704425898821115266 : True := trivial
theorem top05.tw3730740205769491428 : True := trivial
theorem top05.tw3731874492201429689 : True := trivial
theorem top05.tw3748676998498229508 : True := trivial
theorem top05.tw3865678166120155752 : True := trivial
theorem top05.tw3894357249663499446 : True := trivial
theorem top05.tw3930022284282802941 : True := trivial
theorem top05.tw3940746205324089701 : True := trivial
theorem top05.tw3948525247866135633 : True := trivial
theorem top05.tw3958162590280826046 : True := trivial
theorem top05.tw3995498421587780621 : True := trivial
theorem top05.tw4050811577000257039 : True := trivial
theorem top05.tw4053746004176652583 : True := trivial
theorem top05.tw406260042032319309 : True := trivial
theorem top05.tw4065878005090025101 : True := trivial
theorem top05.tw4103755677523370854 : True := trivial
theorem top05.tw4137493093344912643 : True := trivial
theorem top05.tw4240166139868450090 : True := trivial
theorem top05.tw4264902482691567095 : True := trivial
theorem top05.tw4268734788760148100 : True := trivial
theorem top05.tw4329528574955597382 : True := trivial
theorem top05.tw4336691886477129425 : True := trivial
theorem top05.tw4407741896111989337 : True := trivial
theorem top05.tw442087418372397806 : True := trivial
theorem top05.tw4443244495968351737 : True := trivial
theorem top05.tw4453294713110142725 : True := trivial
theorem top05.tw4459665778369296627 : True := trivial
theorem top05.tw4471745749651078008 : True := trivial
theorem top05.tw4475479662955507762 : True := trivial
theorem top05.tw4488063022651362580 : True := trivial
theorem top05.tw4509991706768714652 : True := trivial
theorem top05.tw4580723815932505693 : True := trivial
theorem top05.tw4592386057658516096 : True := trivial
theorem top05.tw4608022352924402851 : True := trivial
theorem top05.tw4631816578695633642 : True := trivial
theorem top05.tw4733295643907469462 : True := trivial
theorem top05.tw4754102607588750026 : True := trivial
theorem top05.tw4763226372339915008 : True := trivial
theorem top05.tw4763901995112447860 : True := trivial
theorem top05.tw4779744736973112875 : True := trivial
theorem top05.tw4804489034665332900 : True := trivial
theorem top05.tw4822277079792497808 : True := trivial
theorem top05.tw4838821118788391066 : True := trivial
theorem top05.tw4844917739294824351 : True := trivial
theorem top05.tw4896848561931662055 : True := trivial
theorem top05.tw4899832290193660608 : True := trivial
theorem top05.tw4968459783976556150 : True := trivial
theorem top05.tw4969999178029447513 : True := trivial
theorem top05.tw4983794619979705362 : True := trivial
theorem top05.tw5001032363901197542 : True := trivial
theorem top05.tw5017096070728912088 : True := trivial
theorem top05.tw5039350295395906412 : True := trivial
theorem top05.tw5057460420384983944 : True := trivial
theorem top05.tw5143934630011674642 : True := trivial
theorem top05.tw5176939286091303109 : True := trivial
theorem top05.tw5185086849742897850 : True := trivial
theorem top05.tw5236272590031984568 : True := trivial
theorem top05.tw5238502088325622005 : True := trivial
theorem top05.tw5245967313143526041 : True := trivial
theorem top05.tw5300681083697316859 : True := trivial
theorem top05.tw5305900589332116383 : True := trivial
theorem top05.tw5336528207846752114 : True := trivial
theorem top05.tw5380719260959355944 : True := trivial
theorem top05.tw5494929915803305495 : True := trivial
theorem top05.tw551892043394445979 : True := trivial
theorem top05.tw5549907610321581842 : True := trivial
theorem top05.tw561208313046306438 : True := trivial
theorem top05.tw5636960619889424955 : True := trivial
theorem top05.tw5678711400884963684 : True := trivial
theorem top05.tw5705899531914875538 : True := trivial
theorem top05.tw571467874650196455 : True := trivial
theorem top05.tw5728425483439315208 : True := trivial
theorem top05.tw5734415512763381844 : True := trivial
theorem top05.tw5737960143866001195 : True := trivial
theorem top05.tw5747786665691328551 : True := trivial
theorem top05.tw5758289201776271308 : True := trivial
theorem top05.tw5769077529067396835 : True := trivial
theorem top05.tw5770406458321124725 : True := trivial
theorem top05.tw5813036802685320609 : True := trivial
theorem top05.tw5850479771304900204 : True := trivial
theorem top05.tw5943568237239014301 : True := trivial
theorem top05.tw5949466803795125294 : True := trivial
theorem top05.tw6052589011850850774 : True := trivial
theorem top05.tw6064014583517820805 : True := trivial
theorem top05.tw6068824970822998126 : True := trivial
theorem top05.tw6107791505005469909 : True := trivial
theorem top05.tw6200900105479066364 : True := trivial
theorem top05.tw6212130748465527289 : True := trivial
theorem top05.tw6216977129694353679 : True := trivial
theorem top05.tw626687179818876093 : True := trivial
theorem top05.tw6266969092035505695 : True := trivial
theorem top05.tw6268860251566884713 : True := trivial
theorem top05.tw6279537623485939397 : True := trivial
theorem top05.tw6331093611440079783 : True := trivial
theorem top05.tw6336200664843984387 : True := trivial
theorem top05.tw6347150814741241568 : True := trivial
theorem top05.tw6397447264234947082 : True := trivial
theorem top05.tw6408292207008764097 : True := trivial
theorem top05.tw6408520703085653455 : True := trivial
theorem top05.tw6420349129528046420 : True := trivial
theorem top05.tw6440838573536376001 : True := trivial
theorem top05.tw6545100790103793434 : True := trivial
theorem top05.tw6545261559474089853 : True := trivial
theorem top05.tw6568880440948428799 : True := trivial
theorem top05.tw6572721121657650201 : True := trivial
theorem top05.tw6579985311792126468 : True := trivial
theorem top05.tw6592523278104696213 : True := trivial
theorem top05.tw6668021977660135584 : True := trivial
theorem top05.tw6682153794990238515 : True := trivial
theorem top05.tw6701823581516108411 : True := trivial
theorem top05.tw6708386206593764242 : True := trivial
theorem top05.tw6813128362515601728 : True := trivial
theorem top05.tw6894680734164095892 : True := trivial
theorem top05.tw6909285846292156113 : True := trivial
theorem top05.tw6934473852282041412 : True := trivial
theorem top05.tw6979705170406906886 : True := trivial
theorem top05.tw6980122516454344618 : True := trivial
theorem top05.tw6986859924432748317 : True := trivial
theorem top05.tw7062576576021818736 : True := trivial
theorem top05.tw7066048433978078425 : True := trivial
theorem top05.tw7066935797979821789 : True := trivial
theorem top05.tw7117510365234242169 : True := trivial
theorem top05.tw7131450950824584463 : True := trivial
theorem top05.tw7153655271941141800 : True := trivial
theorem top05.tw7237173605519256380 : True := trivial
theorem top05.tw7259934753607562201 : True := trivial
theorem top05.tw7263727007313172762 : True := trivial
theorem top05.tw7286954359449188040 : True := trivial
theorem top05.tw7368110591495835919 : True := trivial
theorem top05.tw7408303834951025858 : True := trivial
theorem top05.tw7427560275508716076 : True := trivial
theorem top05.tw7441394697131708262 : True := trivial
theorem top05.tw7462110239690766065 : True := trivial
theorem top05.tw747365824173059840 : True := trivial
theorem top05.tw748542335845842341 : True := trivial
theorem top05.tw7497984380885029558 : True := trivial
theorem top05.tw7508088908170726363 : True := trivial
theorem top05.tw7518821858046011111 : True := trivial
theorem top05.tw7525643790688256025 : True := trivial
theorem top05.tw7526483491061259270 : True := trivial
theorem top05.tw7578844478775812470 : True := trivial
theorem top05.tw7636726765152224059 : True := trivial
theorem top05.tw7713534281631537871 : True := trivial
theorem top05.tw7740035916503469991 : True := trivial
theorem top05.tw7796407017665497276 : True := trivial
theorem top05.tw7807061829190386241 : True := trivial
theorem top05.tw7846153455834653574 : True := trivial
theorem top05.tw7852398034738627779 : True := trivial
theorem top05.tw7900111151666394904 : True := trivial
theorem top05.tw7951581151898550509 : True := trivial
theorem top05.tw7977729831414412520 : True := trivial
theorem top05.tw7992898731337501913 : True := trivial
theorem top05.tw7994432485822777972 : True := trivial
theorem top05.tw8024894600439540168 : True := trivial
theorem top05.tw8036512236488646681 : True := trivial
theorem top05.tw8043309943970990038 : True := trivial
theorem top05.tw808023677569669960 : True := trivial
theorem top05.tw8118330004937602266 : True := trivial
theorem top05.tw8128740288840084246 : True := trivial
theorem top05.tw8145133233924536498 : True := trivial
theorem top05.tw8150357887038481434 : True := trivial
theorem top05.tw8178855242125523835 : True := trivial
theorem top05.tw8244690334153296830 : True := trivial
theorem top05.tw8255268031527493000 : True := trivial
theorem top05.tw8259055210827767574 : True := trivial
theorem top05.tw8261960170538799742 : True := trivial
theorem top05.tw8286704206024549549 : True := trivial
theorem top05.tw8296805906242186523 : True := trivial
theorem top05.tw831053538889824046 : True := trivial
theorem top05.tw8323948832521121203 : True := trivial
theorem top05.tw8512459430716972118 : True := trivial
theorem top05.tw8533504932467835028 : True := trivial
theorem top05.tw8582181623362125005 : True := trivial
theorem top05.tw8592629177977951372 : True := trivial
theorem top05.tw8618765726454945863 : True := trivial
theorem top05.tw8623351146519521101 : True := trivial
theorem top05.tw8713342246411536441 : True := trivial
theorem top05.tw8737854332946554520 : True := trivial
theorem top05.tw8758776620419259727 : True := trivial
theorem top05.tw8812324377758353800 : True := trivial
theorem top05.tw8831513478694075919 : True := trivial
theorem top05.tw8857188231200720013 : True := trivial
theorem top05.tw8863038999955829823 : True := trivial
theorem top05.tw8883659637788619192 : True := trivial
theorem top05.tw8896361409291300189 : True := trivial
theorem top05.tw8942397825283813751 : True := trivial
theorem top05.tw8956656240857124736 : True := trivial
theorem top05.tw8969139490111218082 : True := trivial
theorem top05.tw900566625358911057 : True := trivial
theorem top05.tw9016938193488847178 : True := trivial
theorem top05.tw9035970179165091157 : True := trivial
theorem top05.tw9053236446898987525 : True := trivial
theorem top05.tw9055704321189439850 : True := trivial
theorem top05.tw9128728901643439165 : True := trivial
theorem top05.tw9142449395498384988 : True := trivial
theorem top05.tw9189774440922064511 : True := trivial
theorem top05.tw9355136539715830893 : True := trivial
theorem top05.tw9391705059660845736 : True := trivial
theorem top05.tw942530720235300544 : True := trivial
theorem top05.tw9496245947952302078 : True := trivial
theorem top05.tw9530035153184117097 : True := trivial
theorem top05.tw9541602587401987405 : True := trivial
theorem top05.tw9566192352948958908 : True := trivial
theorem top05.tw9573747895012139106 : True := trivial
theorem top05.tw963659612927989730 : True := trivial
theorem top05.tw9656286053490444273 : True := trivial
theorem top05.tw9657979185216750425 : True := trivial
theorem top05.tw9668341059727017102 : True := trivial
theorem top05.tw9669027387585298417 : True := trivial
theorem top05.tw9679900025791894253 : True := trivial
theorem top05.tw9735440486917465515 : True := trivial
theorem top05.tw9751976061403381429 : True := trivial
theorem top05.tw9761134738057985914 : True := trivial
theorem top05.tw9783858134997903129 : True := trivial
theorem top05.tw9790435165213694434 : True := trivial
theorem top05.tw9931447857189103977 : True := trivial
theorem top05.tw9940204577637887535 : True := trivial
theorem top05.tw9943127453491992808 : True := trivial
theorem top05.tw9973197353432154426 : True := trivial
theorem top05.tw9976539600487482931 : True := trivial
theorem top05.tw9979222358800153365 : True := trivial
theorem walkAs {q q' : Program} {YP : World → Heap → Prop} {r : RowW} {d : DefRec} {kwd : List (Str × Expr)} {run : Value → List Value → Sem Value} (e : q' = q) (h : WalkO q [] (XL q []) YP r d kwd run) : WalkO q' [] (XL q' []) YP r d kwd run := by subst e; exact h
set_option Elab.async true in
set_option maxRecDepth 100000 in
set_option maxHeartbeats 8000000 in
theorem top05 : PySem.Challenge.rw_qd0023_05.Holds := by
  w_on
  o_law
  o_head (kHook hd05.heap_1 [0, 1, 2, 3, 4, 5, 6, 7, 8, 9, 10, 11, 12, 13, 14, 15, 16, 17, 18, 19, 20, 21, 22, 23, 24, 25, 26, 27, 28, 29, 30, 31, 32, 33, 34, 35, 36, 37, 38, 39, 40, 41, 42, 43, 44, 45, 46, 47, 48, 49, 50, 53, 58, 59, 60, 61, 62, 63, 64, 65, 66, 67, 68, 69, 70, 71, 72, 73, 74, 75, 76, 79, 82, 87, 88, 89, 90, 91, 92, 93, 94, 95, 96, 97, 98, 99, 100, 101, 102, 103, 104, 107, 114, 115, 116, 119, 126, 127, 128, 131, 132, 133, 134, 135, 136, 137, 138, 139, 140, 141, 142, 143, 144, 145, 146, 147, 148, 149, 150, 151, 152, 153, 154, 155, 156, 157, 158, 159, 160, 161, 162, 163, 164, 165, 166, 167, 168, 169, 170, 171, 172, 173, 174, 175, 176, 177, 178, 179, 180, 181, 182, 183, 184, 185, 186, 187, 188, 189, 190, 191, 192, 193, 194, 195, 196, 197, 198, 199, 200, 201, 202, 203, 204, 205, 206, 207, 208, 209, 210, 211, 212, 213, 214, 215, 216, 217, 218, 219, 220, 221, 222, 223, 224, 225, 226, 227, 228, 229, 230, 231, 232, 233, 234, 235, 236, 237, 238, 239, 240, 241, 242, 243, 244, 245, 246, 247, 248, 249, 250, 251, 252, 253, 254, 255, 256, 257, 258, 259, 260, 261, 269, 270, 271, 272, 273, 274, 275, 276, 277, 278, 279, 280, 281, 282, 283, 284, 285, 286, 287, 288, 289, 290, 291, 292, 293, 294, 295, 296, 297, 298, 299, 300, 301, 302, 303, 304, 305, 306, 307, 308, 309, 310, 311, 312, 313, 314, 315, 316, 317, 318, 319, 320, 321, 322, 323, 324, 325, 326, 327, 328, 329, 330, 331, 332, 333, 334, 335, 336, 337, 338, 339, 340, 341, 342, 343, 344, 345, 346, 347, 348, 349, 350, 351, 352, 353, 354, 355, 356, 357, 358, 359, 360, 361, 362, 363, 364, 365, 368, 369, 370, 371, 372, 373, 374, 375, 376, 377, 378, 379, 380, 381, 382, 383, 384, 385, 386, 387, 388, 389, 390, 391, 392, 393, 394, 395, 396, 397, 398, 399, 400, 401, 402, 403, 404, 405, 406, 407, 408, 409, 410, 411, 412, 413, 414, 415, 416, 417, 418, 419, 420, 421, 422, 423, 424, 425, 426, 427, 428, 429, 430, 431, 432, 433, 434, 435, 436, 437, 438, 439, 440, 441, 442, 443, 444, 445, 446, 447, 448, 449, 450, 451, 452, 453, 454, 455, 456, 457, 458, 459, 460, 461, 462, 463, 464, 465, 466, 467, 468, 469, 470, 471, 472, 473, 474, 475, 476] addrs05)
  case hw => w_witness2
  case hc => exact walkAs (by kernel_rfl) lawWalk
end Mine
end -- Ht05b
theorem PySem.Challenge.cw_qd0023_05_holds : PySem.Challenge.rw_qd0023_05.Holds :=
  Mine.top05

